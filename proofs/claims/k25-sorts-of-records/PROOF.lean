import PyProof.Rows.All
import Wide.All
import OpenK.AllK
import Wide.FinOn
import PyProof.EqAt
import PyProof.EqKinds
import PyProof.TupleCall
import HandS.Base
import HandS.Call
import HandS.List
import HandS.Ends
import HandS.Exc
import HandS.Words
import HandS.WordsExc
import HandS.CallSlots
import HandS.ExcCtx
import HandS.SuiteRaise
import HandS.ExcInit
import HandS.Wide
import HandS.Text
import HandS.TupAny
import HandS.IsInst
import HandS.More
import HandS.Comp
import HandS.Iter
import HandS.Defaults
import HandS.Property
import HandS.MakeKw
import HandS.Star
import KE.KCallOwn
import HandS.Head0
import HandS.Head1
import HandS.Head2
import HandS.HeadEnd
import HandS.HeadHook1
import HandS.HeadHook2
import HandS.HeadHook3
import HandS.HeadHook4
import HandS.EndBits
import HandS.Style
import HandS.SlotsOwn
import HandS.NamedTup0
import HandS.ExcInitHot
import HandS.ExcField
import HandS.ExcIs
import HandS.TryOnly
import KE.KExcInit
import HandS.ClsMeth
import HandS.HeadNt
import KE.GoesEnum
import HandS.RaiseMore
import HandS.TupMul
import HandS.SetFor
import HandS.Strs
import HandS.Conv
import HandS.RaiseFrom
import PyProof.ReprRoads
import PyProof.AutoSeq1
import OpenK.KMeth
import KE.KIsAll
import PyProof.IsiBase
import PyProof.FactsAll.set
import PyProof.RulesMatch
import KE.KDictList
import KE.KItemsList
import HandS.ExcValue
import PyProof.StrOps2
import HandS.SortInts
import PyProof.Rows.TmSorted
import PyProof.Rows.StrMeet
import HandS.DictComp
import HandS.Zip
import HandS.Flow
import KE.KOpsOwn
import HandS.ReplaceLit
import KE.KAsSuite
import HandS.TupLen
import KE.KDictDisplayH
import KE.KeyNested
import HandS.MakeKwOnly
import PySem.Challenge.RW_joinsback_k25_sorts_of_records
set_option Elab.async false
set_option linter.all false
set_option maxRecDepth 100000
set_option maxHeartbeats 4000000
/-! PD1: values as plain data, the state (data, owned cells), judgements over data. -/
namespace PD
open PySem PySem.Spec PyProof.Rows L2
inductive D where
  | non | bl (b : Bool) | int (i : Int) | str (x : Str) | ty (n : String) | ref (a : Addr)
  | lst (xs : List D) | rl (xs : List D) | tup (xs : List D) | obj (C : Addr) (ns : List Str) (ds : List D) | dK (ks : List Key) (ds : List D)
  /-- a slice object -/
  | slc (lo hi st : Option Int)
  /-- an exception that is kept: its class, what it keeps -/
  | exv (C : Addr) (ns : List Str) (ds : List D)
  deriving Inhabited
/-- what a slice object is -/
def slcO (a : Addr) (lo hi st : Option Int) : Heap → Prop := fun h => ∃ o vl vu vs, h.get? a = some o ∧ o.cls = .type "slice" ∧ o.data = .fields #[vl, vu, vs] ∧ IsPart vl lo ∧ IsPart vu hi ∧ IsPart vs st
mutual
def Dp (K : PySem.W.Frag) (F : Hp) : D → V → Prop
  | .non, v => v = .non
  | .bl b, v => v = .bl b
  | .int i, v => v = .int i
  | .str x, v => v = .str x
  | .ty n, v => v = .ty n
  | .ref a, v => v = .ref a
  | .lst ds, v => ∃ a vs, v = .ref a ∧ F a = some (.lst vs) ∧ Dps K F ds vs
  | .rl ds, v => ∃ a vs, v = .ref a ∧ SqL K F a vs ∧ Dps K F ds vs
  | .tup ds, v => ∃ a vs, v = .ref a ∧ SqT K F a vs ∧ Dps K F ds vs
  | .obj C ns ds, v => ∃ a dx gs, v = .ref a ∧ F a = some (.ins C dx gs) ∧ gs.map (·.1) = ns ∧ Dps K F ds (gs.map (·.2))
  | .dK ks ds, v => ∃ a kvs, v = .ref a ∧ F a = some (.dK kvs) ∧ kvs.map (·.1) = ks ∧ Dps K F ds (kvs.map (·.2))
  | .slc lo hi st, v => ∃ a, v = .ref a ∧ F a = some (.ext (slcO a lo hi st))
  | .exv C ns ds, v => ∃ a o gs, v = .ref a ∧ F a = some (exo a C o) ∧ (o = none → gs = []) ∧ (∀ dx, o = some dx → F dx = some (exd dx gs)) ∧ gs.map (·.1) = ns ∧ Dps K F ds (gs.map (·.2))
def Dps (K : PySem.W.Frag) (F : Hp) : List D → List V → Prop
  | [], vs => vs = []
  | d :: ds, vs => ∃ v ws, vs = v :: ws ∧ Dp K F d v ∧ Dps K F ds ws
end
inductive Cell where
  | lst (ds : List D)
  | ins (C dx : Addr) (ns : List Str) (ds : List D)
  | dK (ks : List Key) (ds : List D)
  | dT (ks : List (List Key)) (ds : List D)
  | set (S : Int → Bool) (n : Nat)
  /-- a dict that is locked -/
  | dF (od : Obj) (gs : List (Key × V)) (ds : List D)
  /-- any other thing, by what is true of what stands there -/
  | raw (R : Addr → PySem.W.Frag → Hp → HO → Prop) (st : ∀ p K F F' o, Same F F' → R p K F o → R p K F' o)
abbrev Mu := List (Addr × Cell)
abbrev Dl := List (Option D)
section
variable {K : PySem.W.Frag} {F F' H H' : Hp}
theorem Same.sqT {a : Addr} {xs : List V} (e : Same F F') (h : SqT K F a xs) : SqT K F' a xs := by
  rcases h with (h | ⟨o, h⟩) | h
  · exact .inl (.inl (e _ _ h))
  · exact .inl (.inr ⟨o, e _ _ h⟩)
  · exact .inr h
mutual
theorem Dp.mono (e : Same F F') : ∀ {d : D} {v : V}, Dp K F d v → Dp K F' d v
  | .non, _, h => h
  | .bl _, _, h => h
  | .int _, _, h => h
  | .str _, _, h => h
  | .ty _, _, h => h
  | .ref _, _, h => h
  | .lst ds, v, h => by
    rw [Dp] at h ⊢
    obtain ⟨a, vs, h1, h2, h3⟩ := h
    exact ⟨a, vs, h1, e _ _ h2, Dps.mono e h3⟩
  | .rl ds, v, h => by
    rw [Dp] at h ⊢
    obtain ⟨a, vs, h1, h2, h3⟩ := h
    exact ⟨a, vs, h1, e.seq h2, Dps.mono e h3⟩
  | .tup ds, v, h => by
    rw [Dp] at h ⊢
    obtain ⟨a, vs, h1, h2, h3⟩ := h
    exact ⟨a, vs, h1, Same.sqT e h2, Dps.mono e h3⟩
  | .obj C ns ds, v, h => by
    rw [Dp] at h ⊢
    obtain ⟨a, dx, gs, h1, h2, h3, h4⟩ := h
    exact ⟨a, dx, gs, h1, e _ _ h2, h3, Dps.mono e h4⟩
  | .dK ks ds, v, h => by
    rw [Dp] at h ⊢
    obtain ⟨a, gs, h1, h2, h3, h4⟩ := h
    exact ⟨a, gs, h1, e _ _ h2, h3, Dps.mono e h4⟩
  | .slc _ _ _, v, h => by
    rw [Dp] at h ⊢
    obtain ⟨a, h1, h2⟩ := h
    exact ⟨a, h1, e _ _ h2⟩
  | .exv C ns ds, v, h => by
    rw [Dp] at h ⊢
    obtain ⟨a, o, gs, h1, h2, h3, h4, h5, h6⟩ := h
    exact ⟨a, o, gs, h1, e _ _ h2, h3, fun dx z => e _ _ (h4 dx z), h5, Dps.mono e h6⟩
theorem Dps.mono (e : Same F F') : ∀ {ds : List D} {vs : List V}, Dps K F ds vs → Dps K F' ds vs
  | [], _, h => h
  | d :: ds, vs, h => by
    rw [Dps] at h ⊢
    obtain ⟨v, ws, h1, h2, h3⟩ := h
    exact ⟨v, ws, h1, Dp.mono e h2, Dps.mono e h3⟩
end
theorem Dps.nil : Dps K F [] [] := by rw [Dps]
theorem Dps.cons {d : D} {v : V} {ds : List D} {vs : List V} (h : Dp K F d v) (hs : Dps K F ds vs) : Dps K F (d :: ds) (v :: vs) := by
  rw [Dps]; exact ⟨v, vs, rfl, h, hs⟩
theorem Dps.uncons {d : D} {ds : List D} {vs : List V} (h : Dps K F (d :: ds) vs) : ∃ v ws, vs = v :: ws ∧ Dp K F d v ∧ Dps K F ds ws := by
  rw [Dps] at h; exact h
theorem Dps.unnil {vs : List V} (h : Dps K F [] vs) : vs = [] := by rw [Dps] at h; exact h
theorem Dps.length : ∀ {ds : List D} {vs : List V}, Dps K F ds vs → ds.length = vs.length
  | [], vs, h => by rw [h.unnil]; rfl
  | d :: ds, vs, h => by
    obtain ⟨v, ws, rfl, _, h3⟩ := h.uncons
    rw [List.length_cons, List.length_cons, Dps.length h3]
theorem Dps.get : ∀ {ds : List D} {vs : List V} {i : Nat} {d : D}, Dps K F ds vs → ds[i]? = some d → ∃ v, vs[i]? = some v ∧ Dp K F d v
  | [], vs, i, d, h, e => by simp at e
  | d' :: ds, vs, 0, d, h, e => by
    obtain ⟨v, ws, rfl, h2, h3⟩ := h.uncons
    rw [List.getElem?_cons_zero] at e
    cases e
    exact ⟨v, rfl, h2⟩
  | d' :: ds, vs, i + 1, d, h, e => by
    obtain ⟨v, ws, rfl, h2, h3⟩ := h.uncons
    rw [List.getElem?_cons_succ] at e
    obtain ⟨u, h4, h5⟩ := Dps.get h3 e
    exact ⟨u, by rw [List.getElem?_cons_succ]; exact h4, h5⟩
theorem Dps.append : ∀ {ds es : List D} {vs ws : List V}, Dps K F ds vs → Dps K F es ws → Dps K F (ds ++ es) (vs ++ ws)
  | [], _, _, _, h, h' => by rw [h.unnil]; exact h'
  | d :: ds, es, vs, ws, h, h' => by
    obtain ⟨v, us, rfl, h2, h3⟩ := h.uncons
    exact Dps.cons h2 (Dps.append h3 h')
theorem Dps.drop : ∀ {ds : List D} {vs : List V} (n : Nat), Dps K F ds vs → Dps K F (ds.drop n) (vs.drop n)
  | ds, vs, 0, h => h
  | [], vs, n + 1, h => by rw [h.unnil]; exact Dps.nil
  | d :: ds, vs, n + 1, h => by
    obtain ⟨v, us, rfl, h2, h3⟩ := h.uncons
    exact Dps.drop n h3
theorem Dps.take : ∀ {ds : List D} {vs : List V} (n : Nat), Dps K F ds vs → Dps K F (ds.take n) (vs.take n)
  | ds, vs, 0, h => by rw [List.take_zero, List.take_zero]; exact Dps.nil
  | [], vs, n + 1, h => by rw [h.unnil]; exact Dps.nil
  | d :: ds, vs, n + 1, h => by
    obtain ⟨v, us, rfl, h2, h3⟩ := h.uncons
    exact Dps.cons h2 (Dps.take n h3)
theorem Dps.set : ∀ {ds : List D} {vs : List V} (i : Nat) {d : D} {v : V}, Dps K F ds vs → Dp K F d v → Dps K F (ds.set i d) (vs.set i v)
  | [], vs, i, d, v, h, _ => by rw [h.unnil]; exact Dps.nil
  | d' :: ds, vs, 0, d, v, h, k => by
    obtain ⟨v', us, rfl, h2, h3⟩ := h.uncons
    exact Dps.cons k h3
  | d' :: ds, vs, i + 1, d, v, h, k => by
    obtain ⟨v', us, rfl, h2, h3⟩ := h.uncons
    exact Dps.cons h2 (Dps.set i h3 k)
theorem Dps.reverse : ∀ {ds : List D} {vs : List V}, Dps K F ds vs → Dps K F ds.reverse vs.reverse
  | [], vs, h => by rw [h.unnil]; exact Dps.nil
  | d :: ds, vs, h => by
    obtain ⟨v, us, rfl, h2, h3⟩ := h.uncons
    rw [List.reverse_cons, List.reverse_cons]
    exact (Dps.reverse h3).append (Dps.cons h2 Dps.nil)
theorem Dps.dropLast {ds : List D} {vs : List V} (h : Dps K F ds vs) : Dps K F ds.dropLast vs.dropLast := by
  rw [List.dropLast_eq_take, List.dropLast_eq_take, h.length]
  exact h.take _
theorem Dps.of_ints : ∀ {ns : List Int}, Dps K F (ns.map D.int) (ns.map V.int)
  | [] => Dps.nil
  | n :: ns => Dps.cons (by rw [Dp]) Dps.of_ints
theorem Dps.strs : ∀ {ns : List Str} {vs : List V}, Dps K F (ns.map D.str) vs → vs = ns.map V.str
  | [], vs, h => h.unnil
  | n :: ns, vs, h => by
    obtain ⟨v, us, rfl, h2, h3⟩ := Dps.uncons h
    rw [Dp] at h2
    rw [h2, Dps.strs h3, List.map_cons]
theorem Dps.of_strs : ∀ {ns : List Str}, Dps K F (ns.map D.str) (ns.map V.str)
  | [] => Dps.nil
  | n :: ns => Dps.cons (by rw [Dp]) Dps.of_strs
theorem Dps.bls : ∀ {ns : List Bool} {vs : List V}, Dps K F (ns.map D.bl) vs → vs = ns.map V.bl
  | [], vs, h => h.unnil
  | n :: ns, vs, h => by
    obtain ⟨v, us, rfl, h2, h3⟩ := Dps.uncons h
    rw [Dp] at h2
    rw [h2, Dps.bls h3, List.map_cons]
end
/-! ### cells, the state -/
def CellOk (K : PySem.W.Frag) (F H : Hp) (p : Addr) : Cell → Prop
  | .lst ds => ∃ vs, H p = some (.lst vs) ∧ Dps K F ds vs
  | .ins C dx ns ds => ∃ gs, H p = some (.ins C dx gs) ∧ gs.map (·.1) = ns ∧ Dps K F ds (gs.map (·.2))
  | .dK ks ds => ∃ kvs, H p = some (.dK kvs) ∧ kvs.map (·.1) = ks ∧ Dps K F ds (kvs.map (·.2))
  | .dT ks ds => ∃ kvs, H p = some (.dT kvs) ∧ kvs.map (·.1) = ks ∧ Dps K F ds (kvs.map (·.2))
  | .set S n => H p = some (.set S n)
  | .dF od gs ds => H p = some (.frz od (.dK gs)) ∧ Dps K F ds (gs.map (·.2))
  | .raw R _ => ∃ o, H p = some o ∧ R p K F o
def dom (μ : Mu) : List Addr := μ.map (·.1)
structure Sx (K : PySem.W.Frag) (F : Hp) (μ : Mu) (H : Hp) : Prop where
  sub : Same F H
  off : ∀ c ∈ μ, F c.1 = none
  nd : (dom μ).Nodup
  cells : ∀ c ∈ μ, CellOk K F H c.1 c.2
structure Step (F : Hp) (μ : Mu) (H : Hp) (F' : Hp) (μ' : Mu) (H' : Hp) : Prop where
  ext : Same F F'
  keep : ∀ a o, H a = some o → a ∉ dom μ → H' a = some o
  new : ∀ a o, F' a = some o → F a = none → H a = none ∨ a ∈ dom μ
  cell : ∀ a ∈ dom μ', a ∈ dom μ ∨ H a = none
theorem Step.refl (F : Hp) (μ : Mu) (H : Hp) : Step F μ H F μ H :=
  ⟨Same.refl F, fun _ _ h _ => h, fun a o h h' => by rw [h] at h'; (cases h'), fun a h => .inl h⟩
theorem Step.back {F F' H H' : Hp} {μ μ' : Mu} (s : Step F μ H F' μ' H') {a : Addr} (h : H' a = none) : H a = none ∨ a ∈ dom μ := by
  by_cases q : a ∈ dom μ
  · exact .inr q
  · cases e : H a with
    | none => exact .inl rfl
    | some o => rw [s.keep a o e q] at h; cases h
theorem Step.trans {F F1 F2 H H1 H2 : Hp} {μ μ1 μ2 : Mu} (s : Step F μ H F1 μ1 H1) (t : Step F1 μ1 H1 F2 μ2 H2) : Step F μ H F2 μ2 H2 where
  ext := s.ext.trans t.ext
  keep := fun a o h hn => t.keep a o (s.keep a o h hn) fun hm => by
    rcases s.cell a hm with q | q
    · exact hn q
    · rw [h] at q; cases q
  new := fun a o h h0 => by
    cases e : F1 a with
    | some u => exact s.new a u e h0
    | none =>
      rcases t.new a o h e with q | q
      · exact s.back q
      · rcases s.cell a q with z | z
        · exact .inr z
        · exact .inl z
  cell := fun a h => by
    rcases t.cell a h with q | q
    · exact s.cell a q
    · exact (s.back q).symm
def Fr (K : PySem.W.Frag) (F : Hp) (σ : L2.St) (δ : Dl) : Prop := σ.length = δ.length ∧ ∀ (i : Nat) (d : D), δ[i]? = some (some d) → ∃ v, σ[i]? = some (some v) ∧ Dp K F d v
theorem Fr.mono {K : PySem.W.Frag} {F F' : Hp} {σ : L2.St} {δ : Dl} (e : Same F F') (h : Fr K F σ δ) : Fr K F' σ δ :=
  ⟨h.1, fun i d q => by obtain ⟨v, h1, h2⟩ := h.2 i d q; exact ⟨v, h1, h2.mono e⟩⟩
theorem Fr.set {K : PySem.W.Frag} {F : Hp} {σ : L2.St} {δ : Dl} (h : Fr K F σ δ) (i : Nat) {v : V} {d : D} (r : Dp K F d v) : Fr K F (σ.set i (some v)) (δ.set i (some d)) := by
  refine ⟨by rw [List.length_set, List.length_set, h.1], fun j e q => ?_⟩
  by_cases hj : i = j
  · subst hj
    by_cases hl : i < δ.length
    · rw [List.getElem?_set_self hl] at q
      cases q
      exact ⟨v, List.getElem?_set_self (by rw [h.1]; exact hl), r⟩
    · rw [List.getElem?_eq_none (by rw [List.length_set]; omega)] at q
      cases q
  · rw [List.getElem?_set_ne hj] at q ⊢
    exact h.2 j e q
/-- a slot forgotten on both sides -/
theorem Fr.unset {K : PySem.W.Frag} {F : Hp} {σ : L2.St} {δ : Dl} (h : Fr K F σ δ) (i : Nat) (o : Option V) : Fr K F (σ.set i o) (δ.set i none) := by
  refine ⟨by rw [List.length_set, List.length_set, h.1], fun j e q => ?_⟩
  by_cases hj : i = j
  · subst hj
    by_cases hl : i < δ.length
    · rw [List.getElem?_set_self hl] at q
      cases q
    · rw [List.getElem?_eq_none (by rw [List.length_set]; omega)] at q
      cases q
  · rw [List.getElem?_set_ne hj] at q ⊢
    exact h.2 j e q
/-- what holds of an exception: its class, its own dict's fields -/
def XdOk (K : PySem.W.Frag) (F : Hp) (d : Option Addr) (ns : List Str) (ds : List D) : Prop :=
  (d = none ∧ ns = [] ∧ ds = []) ∨ ∃ a gs, d = some a ∧ F a = some (.xd gs) ∧ gs.map (·.1) = ns ∧ Dps K F ds (gs.map (·.2))
theorem XdOk.mono {K : PySem.W.Frag} {F F' : Hp} {d : Option Addr} {ns : List Str} {ds : List D} (e : Same F F') (h : XdOk K F d ns ds) : XdOk K F' d ns ds := by
  rcases h with h | ⟨a, gs, h1, h2, h3, h4⟩
  · exact .inl h
  · exact .inr ⟨a, gs, h1, e _ _ h2, h3, h4.mono e⟩
abbrev XD := Value → List Str → List D → Dl → Mu → Prop
def WofD (K : PySem.W.Frag) (F0 : Hp) (μ0 : Mu) (H0 : Hp) (W : XD) : WX := fun cls d σ H => ∃ F μ δ ns ds, Step F0 μ0 H0 F μ H ∧ Sx K F μ H ∧ Fr K F σ δ ∧ XdOk K F d ns ds ∧ W cls ns ds δ μ
/-! ### exceptions whose context is None, or one that has none itself -/
/-- an exception's object: class, dict, context -/
def Zx (c cls : Value) (d : Option Addr) : Obj → Prop := fun o => Zc cls d o ∧ ∀ vs : Array Value, o.data = .fields vs → vs[2]? = some c
theorem Zx.steady {c cls : Value} {d : Option Addr} : PXN.Steady1 (Zx c cls d) := fun o v h => by
  refine ⟨⟨PXN.steady_cls o v h.1.1, PXN.steady_dict o v h.1.2⟩, fun vs e => ?_⟩
  obtain ⟨k, dd, dt, sl⟩ := o
  cases dt with
  | fields vs0 =>
    have e2 : vs0.setIfInBounds 1 v = vs := Data.fields.inj e
    rw [← e2, Array.getElem?_setIfInBounds_ne (by decide)]
    exact h.2 vs0 rfl
  | _ => exact h.2 vs e
/-- such a context -/
def KC (B : Heap) (H : Hp) (c : Value) : Prop := c = .none ∨ ∃ (x : Addr) (o : Obj) (vs : Array Value), c = .ref x ∧ B.get? x = some o ∧ H x = none ∧ o.data = .fields vs ∧ vs[2]? = some .none
/-- in the air of X -/
def XM (X : Cx) (W : WX) (u : Value) (s' : Shared) : Prop :=
  ∃ (a : Addr) (B : Heap) (sI : Shared) (pins : List (Addr × Obj)) (σ : L2.St) (H : Hp) (cls : Value) (d : Option Addr),
    u = .ref a ∧ Inv X pins σ H sI ∧ (∀ b o, sI.heap.get? b = some o → b ∉ frs X.stack → B.get? b = some o) ∧ sI.heap.UpToSlots s'.heap ∧
      (∃ c, KC B H c ∧ Sky B X.stack a (Zx c cls d) X.env.locals s'.heap) ∧ H a = none ∧ s'.os = sI.os ∧ AllBare s'.gens ∧ W cls d σ H
def TakesM (X : Cx) (W : WX) : Prop := ∀ u s', XM X W u s' → X.xe u s'
/-- behind a call that let such a one out -/
def CXM (P : Program) (w : World) (outer : List Env) (H : Hp) (s : Shared) (E : XK) (u : Value) (s' : Shared) : Prop :=
  ∃ (a : Addr) (B : Heap) (H' : Hp) (cls : Value) (d : Option Addr), u = .ref a ∧ (∃ c, KC B H' c ∧ HandSPX.FlyingZ B outer a (Zx c cls d) s'.heap) ∧ HOk P w H' B ∧ UB (frs outer) H H' s.heap B s'.heap ∧ H' a = none ∧ s'.os = s.os ∧ AllBare s'.gens ∧ E cls d H'
section
variable {X : Cx} {pins : List (Addr × Obj)} {σ : L2.St} {H H' : Hp} {sI s s' : Shared} {B : Heap} {W : WX} {E : XK}
/-- the state that a call leaves, without the exception -/
theorem call_ground (I : Inv X pins σ H s) (st : B.StaysIn s'.heap) (hok : HOk X.prog X.w H' B) (ub : UB (frs X.stack) H H' s.heap B s'.heap) (os : s'.os = s.os) (ag : AllBare s'.gens) :
    ∃ sI, Inv X pins σ H' sI ∧ (∀ b o, sI.heap.get? b = some o → b ∉ frs X.stack → B.get? b = some o) ∧ sI.heap.UpToSlots s'.heap ∧ s'.os = sI.os := by
  obtain ⟨G, inG, notG⟩ := restrict s'.heap fun b => (B.get? b).isSome || decide (b ∈ frs X.stack)
  have fromB : ∀ b o, B.get? b = some o → G.get? b = some o := fun b o z => (inG b (by simp [z])).trans (st b o z)
  have fromF : ∀ b, b ∈ frs X.stack → G.get? b = s'.heap.get? b := fun b hb => inG b (by simp [hb])
  have ofG : ∀ b o, G.get? b = some o → s'.heap.get? b = some o ∧ ((B.get? b).isSome = true ∨ b ∈ frs X.stack) := fun b o z => by
    by_cases q : ((B.get? b).isSome || decide (b ∈ frs X.stack)) = true
    · rw [inG b q] at z
      exact ⟨z, by simpa [Bool.or_eq_true] using q⟩
    · rw [notG b (by simpa using q)] at z
      cases z
  refine ⟨{ s with heap := G, gens := s'.gens, drawn := s'.drawn, toks := s'.toks }, ?_, fun b o z hb => ?_, Heap.UpToSlots.of_keeps fun b o z => (ofG b o z).1, os⟩
  · have un : Un (frs X.stack) [] H H' s.heap G := by
      refine ⟨fun b o z n hb _ => fromB b o (ub.keep b o z n hb), fun b o z n hb _ => ?_, fun b o z n _ => ub.free b o z n, fun b o z _ => ?_, ub.tups, ub.frzs, ub.tbls⟩
      · obtain ⟨sl, q⟩ := ub.slot b o z hb
        exact ⟨sl, (fromF b hb).trans q⟩
      · by_cases hb : b ∈ frs X.stack
        · obtain ⟨sl, q⟩ := ub.slot b o z hb
          exact ⟨_, (fromF b hb).trans q⟩
        · obtain ⟨o2, q⟩ := ub.there b o z hb
          exact ⟨o2, fromB b o2 q⟩
    exact I.call (ch := []) un (hok.kept fromB) ag (fun _ z => nomatch z)
  · obtain ⟨z2, q⟩ := ofG b o z
    rcases q with q | q
    · obtain ⟨o2, q⟩ := Option.isSome_iff_exists.mp q
      have z3 := st b o2 q
      rw [z2] at z3
      cases z3
      exact q
    · exact absurd q hb
theorem XM.of_call (I : Inv X pins σ H s) (hW : ∀ cls d H', E cls d H' → W cls d σ H') {u : Value} (c : CXM X.prog X.w X.stack H s E u s') : XM X W u s' := by
  obtain ⟨a, B, H', cls, d, rfl, ⟨c, kc, fl⟩, hok, ub, na, os, ag, hE⟩ := c
  obtain ⟨sI, I2, nb, up, os2⟩ := call_ground I fl.1 hok ub os ag
  exact ⟨a, B, sI, pins, σ, H', cls, d, rfl, I2, nb, up, ⟨c, kc, .inr (.inl fl)⟩, na, os2, ag, hW _ _ _ hE⟩
/-- it leaves the def -/
theorem XM.leave (hs : X.stack = X.env :: X.outer) (hf : X.env.frame = some X.env.locals) (hex : X.ex = []) {E₁ : Value → Shared → Prop} (hW : ∀ cls d σ H, W cls d σ H → E cls d H) {u : Value} (x : XM X W u s') :
    wpAny (model X.prog X.w) X.A (leaving X.env u) (fun _ s2 => CXM X.prog X.w X.outer X.H_0 X.s_0 E u s2) E₁ s' := by
  obtain ⟨a, B, sI, pins, σ, H, cls, d, rfl, I, nb, up, ⟨c, kc, sky⟩, na, os, ag, w⟩ := x
  have frA : X.A.frames = some (X.env :: X.outer) := by rw [I.ok.frames, hs]
  have noex : ∀ b, b ∉ X.ex := fun b hb => by rw [hex] at hb; cases hb
  have noSt : ∀ b o, X.s_0.heap.get? b = some o → b ∉ X.fs → b ∉ frs X.stack := fun b o z hb hm => by
    rcases List.mem_cons.mp (I.stkSub b hm) with y | y
    · have h1 := Heap.lt_size z
      rw [y] at h1
      exact absurd (Nat.lt_of_lt_of_le h1 I.ok.above) (Nat.lt_irrefl _)
    · exact hb y
  have gr := I.inGround nb
  have go : ∀ h', HandSPX.FlyingZ B X.outer a (Zx c cls d) h' → s'.heap.UpToSlots h' → CXM X.prog X.w X.outer X.H_0 X.s_0 E (.ref a) { s' with heap := h' } := fun h' fl up2 => by
    refine ⟨a, B, H, cls, d, rfl, ⟨c, kc, fl⟩, gr, ?_, na, os.trans I.os, ag, hW _ _ _ _ w⟩
    refine ⟨fun b o z n hb => nb b o (I.base.keep b o z n hb (noex b)) (noSt b o z hb), fun b o z hb => ?_, fun b o z n => I.base.free b o z n (noex b), fun b o z hb => ?_, I.base.tups, I.base.frzs, I.base.tbls⟩
    · obtain ⟨_, o2, z2, nf⟩ := I.ok.funs.mem hb
      rw [z] at z2
      cases z2
      obtain ⟨l1, q1⟩ := I.base.slot b o z (I.ok.frf b hb) hb (noex b)
      obtain ⟨l2, q2⟩ := up b _ q1 nf
      obtain ⟨l3, q3⟩ := up2 b _ q2 nf
      exact ⟨l3, q3⟩
    · obtain ⟨o2, q1⟩ := I.base.there b o z (noex b)
      exact ⟨o2, nb b o2 q1 (noSt b o z hb)⟩
  rw [hs] at sky
  rcases sky with ⟨y1, y2, y3, oe, vs, y4, y5, y6, y7⟩ | fl | hd
  · exact PXN.leaving_firstZ Zx.steady frA y3 hf y4 y1 y2 y6 y7 y5 go
  · exact PXN.leaves_onZ Zx.steady frA hf fl go
  · exact HandSPX.leaves_heldZ hf hd go
theorem takesM_of (hs : X.stack = X.env :: X.outer) (hf : X.env.frame = some X.env.locals) (hex : X.ex = []) {E₁ : Value → Shared → Prop}
    (hx : X.xe = fun e s' => wpAny (model X.prog X.w) X.A (leaving X.env e) (fun _ s2 => CXM X.prog X.w X.outer X.H_0 X.s_0 E e s2) E₁ s') : TakesM X (fun cls d _ H => E cls d H) := fun u s' x => by
  rw [hx]
  exact XM.leave (W := fun cls d _ H => E cls d H) (E := E) hs hf hex (fun _ _ _ _ h => h) x
end
/-- who takes what flies: all (some false), what has None for its context (some true), or None or one that has None (none) -/
abbrev Md := Option Bool
def TkB : Md → Cx → WX → Prop
  | some true, X, W => L2N.Takes X W
  | some false, X, W => L2.Takes X W
  | none, X, W => TakesM X W
theorem TkB.imp {b : Md} {X : Cx} {W W' : WX} (t : TkB b X W) (h : ∀ c d σ H, W' c d σ H → W c d σ H) : TkB b X W' := by
  match b, t with
  | some true, t => exact L2N.Takes.imp t h
  | some false, t => exact L2.Takes.imp t h
  | none, t => exact fun u s' ⟨a, B, sI, pins, σ, H, cls, d, e, I, nb, up, sky, na, os, ag, w⟩ => t u s' ⟨a, B, sI, pins, σ, H, cls, d, e, I, nb, up, sky, na, os, ag, h _ _ _ _ w⟩
theorem sky_imp {B h : Heap} {l : List Env} {a L : Addr} {Z Z' : Obj → Prop} (z : ∀ o, Z o → Z' o) (x : Sky B l a Z L h) : Sky B l a Z' L h := by
  rcases x with ⟨y1, y2, y3, oe, vs, y4, y5, y6, y7⟩ | x | ⟨y1, y2, y3, y4⟩
  · exact .inl ⟨y1, y2, y3, oe, vs, y4, z _ y5, y6, y7⟩
  · exact .inr (.inl (L2H.flyingZ_imp z x))
  · exact .inr (.inr ⟨y1, y2, y3, L2H.tracedZ_imp z y4⟩)
theorem takesN_of {X : Cx} {W : WX} (t : L2.Takes X W) : L2N.Takes X W := fun u s' ⟨a, B, sI, pins, σ, H, cls, d, e, I, nb, up, sky, r⟩ =>
  t u s' ⟨a, B, sI, pins, σ, H, cls, d, e, I, nb, up, sky_imp (fun _ z => z.zc) sky, r⟩
theorem takesM_all {X : Cx} {W : WX} (t : L2.Takes X W) : TakesM X W := fun u s' ⟨a, B, sI, pins, σ, H, cls, d, e, I, nb, up, ⟨c, kc, sky⟩, r⟩ =>
  t u s' ⟨a, B, sI, pins, σ, H, cls, d, e, I, nb, up, sky_imp (fun _ z => z.1) sky, r⟩
theorem takesN_M {X : Cx} {W : WX} (t : TakesM X W) : L2N.Takes X W := fun u s' ⟨a, B, sI, pins, σ, H, cls, d, e, I, nb, up, sky, r⟩ =>
  t u s' ⟨a, B, sI, pins, σ, H, cls, d, e, I, nb, up, ⟨.none, .inl rfl, sky_imp (fun _ z => ⟨z.zc, z.2.2⟩) sky⟩, r⟩
theorem TkB.all {b : Md} {X : Cx} {W : WX} (t : TkB b X W) (h : b = some false) : L2.Takes X W := by
  subst h; exact t
theorem TkB.n {b : Md} {X : Cx} {W : WX} (t : TkB b X W) : L2N.Takes X W := by
  match b, t with
  | some true, t => exact t
  | some false, t => exact takesN_of t
  | none, t => exact takesN_M t
theorem TkB.m {b : Md} {X : Cx} {W : WX} (t : TkB b X W) (h : b ≠ some true) : TakesM X W := by
  match b, t with
  | some true, _ => exact absurd rfl h
  | some false, t => exact takesM_all t
  | none, t => exact t
structure Ct where
  X : Cx
  F0 : Hp
  μ0 : Mu
  H0 : Hp
  W : XD
  nn : Md
  tk : TkB nn X (WofD X.K F0 μ0 H0 W)
  po : PassesOwn (model X.prog X.w) X.A X.env X.xe
structure At (Γ : Ct) (F : Hp) (δ : Dl) (μ : Mu) (σ : L2.St) (H : Hp) : Prop where
  st : Step Γ.F0 Γ.μ0 Γ.H0 F μ H
  sx : Sx Γ.X.K F μ H
  fr : Fr Γ.X.K F σ δ
section
variable {Γ : Ct} {F F' H H' : Hp} {δ : Dl} {μ : Mu} {σ : L2.St}
/-- the heap grows by things that nobody knows -/
theorem At.ext (a : At Γ F δ μ σ H) (e : Same H H') : At Γ F δ μ σ H' where
  st := ⟨a.st.ext, fun b o h hn => e _ _ (a.st.keep b o h hn), a.st.new, a.st.cell⟩
  sx := ⟨a.sx.sub.trans e, a.sx.off, a.sx.nd, fun c hc => by
    have h := a.sx.cells c hc
    obtain ⟨p, c⟩ := c
    cases c with
    | lst ds => obtain ⟨vs, h1, h2⟩ := h; exact ⟨vs, e _ _ h1, h2⟩
    | ins C dx ns ds => obtain ⟨vs, h1, h2⟩ := h; exact ⟨vs, e _ _ h1, h2⟩
    | dK ns ds => obtain ⟨vs, h1, h2⟩ := h; exact ⟨vs, e _ _ h1, h2⟩
    | dT ns ds => obtain ⟨vs, h1, h2⟩ := h; exact ⟨vs, e _ _ h1, h2⟩
    | dF od gs ds => exact ⟨e _ _ h.1, h.2⟩
    | raw R st => obtain ⟨o, h1, h2⟩ := h; exact ⟨o, e _ _ h1, h2⟩
    | set S n => exact e _ _ h⟩
  fr := a.fr
theorem CellOk.mono {K : PySem.W.Frag} {p : Addr} {c : Cell} (e : Same F F') (e' : H' p = H p) (h : CellOk K F H p c) : CellOk K F' H' p c := by
  cases c with
  | lst ds => obtain ⟨vs, h1, h2⟩ := h; exact ⟨vs, e'.trans h1, h2.mono e⟩
  | ins C dx ns ds => obtain ⟨vs, h1, h2, h3⟩ := h; exact ⟨vs, e'.trans h1, h2, h3.mono e⟩
  | dK ns ds => obtain ⟨vs, h1, h2, h3⟩ := h; exact ⟨vs, e'.trans h1, h2, h3.mono e⟩
  | dT ns ds => obtain ⟨vs, h1, h2, h3⟩ := h; exact ⟨vs, e'.trans h1, h2, h3.mono e⟩
  | dF od gs ds => exact ⟨e'.trans h.1, h.2.mono e⟩
  | raw R st => obtain ⟨o, h1, h2⟩ := h; exact ⟨o, e'.trans h1, st _ _ _ _ _ e h2⟩
  | set S n => exact e'.trans h
theorem CellOk.there {K : PySem.W.Frag} {p : Addr} {c : Cell} (h : CellOk K F H p c) : ∃ o, H p = some o := by
  cases c with
  | lst ds => obtain ⟨vs, h1, h2⟩ := h; exact ⟨_, h1⟩
  | ins C dx ns ds => obtain ⟨vs, h1, h2, h3⟩ := h; exact ⟨_, h1⟩
  | dK ns ds => obtain ⟨vs, h1, h2, h3⟩ := h; exact ⟨_, h1⟩
  | dT ns ds => obtain ⟨vs, h1, h2, h3⟩ := h; exact ⟨_, h1⟩
  | dF od gs ds => exact ⟨_, h.1⟩
  | raw R st => obtain ⟨o, h1, h2⟩ := h; exact ⟨o, h1⟩
  | set S n => exact ⟨_, h⟩
theorem same_upd {p : Addr} {o : HO} (h : H p = none) : Same H (upd H p o) := fun a u e => by
  rw [upd_ne (ne_of_none e h)]; exact e
theorem same_upd2 {p : Addr} {o : HO} (s : Same F H) : Same (upd F p o) (upd H p o) := fun a u e => by
  by_cases q : a = p
  · subst q; rw [upd_same] at e ⊢; exact e
  · rw [upd_ne q] at e ⊢; exact s _ _ e
/-- a new thing, known from now on -/
theorem At.pers (a : At Γ F δ μ σ H) {p : Addr} (o : HO) (hp : H p = none) : At Γ (upd F p o) δ μ σ (upd H p o) := by
  have hF : F p = none := a.sx.sub.free hp
  have sF : Same F (upd F p o) := same_upd hF
  have hμ : p ∉ dom μ := fun hm => by
    obtain ⟨c, hc, e⟩ := List.mem_map.mp hm
    obtain ⟨u, hu⟩ := (a.sx.cells c hc).there
    rw [e, hp] at hu
    cases hu
  refine ⟨⟨a.st.ext.trans sF, fun b u h hn => ?_, fun b u h h0 => ?_, a.st.cell⟩, ⟨same_upd2 a.sx.sub, fun c hc => ?_, a.sx.nd, fun c hc => ?_⟩, a.fr.mono sF⟩
  · exact same_upd hp _ _ (a.st.keep b u h hn)
  · by_cases q : b = p
    · subst q; exact a.st.back hp
    · rw [upd_ne q] at h; exact a.st.new b u h h0
  · rw [upd_ne (fun e => hμ (by rw [← e]; exact List.mem_map.mpr ⟨c, hc, rfl⟩))]; exact a.sx.off c hc
  · refine (a.sx.cells c hc).mono sF (upd_ne fun e => hμ (by rw [← e]; exact List.mem_map.mpr ⟨c, hc, rfl⟩))
/-- a new thing, owned -/
theorem At.own (a : At Γ F δ μ σ H) {p : Addr} {o : HO} {c : Cell} (hp : H p = none) (hc : CellOk Γ.X.K F (upd H p o) p c) : At Γ F δ ((p, c) :: μ) σ (upd H p o) := by
  have hF : F p = none := a.sx.sub.free hp
  have hμ : p ∉ dom μ := fun hm => by
    obtain ⟨c, hc, e⟩ := List.mem_map.mp hm
    obtain ⟨u, hu⟩ := (a.sx.cells c hc).there
    rw [e, hp] at hu
    cases hu
  have b := a.ext (same_upd (o := o) hp)
  refine ⟨⟨b.st.ext, b.st.keep, b.st.new, fun x hx => ?_⟩, ⟨b.sx.sub, fun x hx => ?_, ?_, fun x hx => ?_⟩, b.fr⟩
  · rcases List.mem_cons.mp hx with e | e
    · rw [e]; exact (a.st.back hp).symm
    · exact b.st.cell x e
  · rcases List.mem_cons.mp hx with e | e
    · rw [e]; exact hF
    · exact b.sx.off x e
  · exact List.nodup_cons.mpr ⟨hμ, a.sx.nd⟩
  · rcases List.mem_cons.mp hx with e | e
    · rw [e]; exact hc
    · exact b.sx.cells x e
/-- an owned cell is let go: the thing is known from now on -/
theorem At.freeze {p : Addr} {c : Cell} {μ1 μ2 : Mu} {o : HO} (a : At Γ F δ (μ1 ++ (p, c) :: μ2) σ H) (hp : H p = some o) : At Γ (upd F p o) δ (μ1 ++ μ2) σ H := by
  have hF : F p = none := a.sx.off (p, c) (List.mem_append_right _ List.mem_cons_self)
  have sF : Same F (upd F p o) := same_upd hF
  have nd := a.sx.nd
  have e : dom (μ1 ++ (p, c) :: μ2) = dom μ1 ++ p :: dom μ2 := by unfold dom; rw [List.map_append, List.map_cons]
  rw [e] at nd
  have e2 : dom (μ1 ++ μ2) = dom μ1 ++ dom μ2 := by unfold dom; rw [List.map_append]
  have nd2 := List.nodup_append.mp nd
  have hnot : p ∉ dom (μ1 ++ μ2) := by
    rw [e2]; intro h
    rcases List.mem_append.mp h with q | q
    · exact (nd2.2.2 p q p List.mem_cons_self) rfl
    · exact (List.nodup_cons.mp nd2.2.1).1 q
  have sub : ∀ x ∈ μ1 ++ μ2, x ∈ μ1 ++ (p, c) :: μ2 := fun x hx => by
    rcases List.mem_append.mp hx with q | q
    · exact List.mem_append_left _ q
    · exact List.mem_append_right _ (List.mem_cons_of_mem _ q)
  refine ⟨⟨a.st.ext.trans sF, a.st.keep, fun b u h h0 => ?_, fun x hx => ?_⟩, ⟨fun b u h => ?_, fun x hx => ?_, ?_, fun x hx => ?_⟩, a.fr.mono sF⟩
  · by_cases q : b = p
    · rw [q]
      exact (a.st.cell p (by rw [e]; exact List.mem_append_right _ List.mem_cons_self)).symm
    · rw [upd_ne q] at h; exact a.st.new b u h h0
  · obtain ⟨y, hy, ey⟩ := List.mem_map.mp hx
    exact a.st.cell x (List.mem_map.mpr ⟨y, sub y hy, ey⟩)
  · by_cases q : b = p
    · rw [q, upd_same] at h; rw [q, ← h]; exact hp
    · rw [upd_ne q] at h; exact a.sx.sub _ _ h
  · rw [upd_ne (fun e3 => hnot (by rw [← e3]; exact List.mem_map.mpr ⟨x, hx, rfl⟩))]; exact a.sx.off x (sub x hx)
  · rw [e2]
    exact List.nodup_append.mpr ⟨nd2.1, (List.nodup_cons.mp nd2.2.1).2, fun a' ha' b' hb' => nd2.2.2 a' ha' b' (List.mem_cons_of_mem _ hb')⟩
  · exact (a.sx.cells x (sub x hx)).mono sF rfl
/-- an owned cell changes -/
theorem At.put {p : Addr} {c c' : Cell} {μ1 μ2 : Mu} {o : HO} (a : At Γ F δ (μ1 ++ (p, c) :: μ2) σ H) (hc : CellOk Γ.X.K F (upd H p o) p c') : At Γ F δ (μ1 ++ (p, c') :: μ2) σ (upd H p o) := by
  have hF : F p = none := a.sx.off (p, c) (List.mem_append_right _ List.mem_cons_self)
  have nd := a.sx.nd
  have e : ∀ c, dom (μ1 ++ (p, c) :: μ2) = dom μ1 ++ p :: dom μ2 := fun c => by unfold dom; rw [List.map_append, List.map_cons]
  have mem : ∀ x ∈ μ1 ++ (p, c') :: μ2, x = (p, c') ∨ (x ∈ μ1 ++ (p, c) :: μ2 ∧ x.1 ≠ p) := fun x hx => by
    rw [e] at nd
    have nd2 := List.nodup_append.mp nd
    rcases List.mem_append.mp hx with q | q
    · refine .inr ⟨List.mem_append_left _ q, fun z => ?_⟩
      exact (nd2.2.2 p (by rw [← z]; exact List.mem_map.mpr ⟨x, q, rfl⟩) p List.mem_cons_self) rfl
    · rcases List.mem_cons.mp q with z | z
      · exact .inl z
      · refine .inr ⟨List.mem_append_right _ (List.mem_cons_of_mem _ z), fun y => ?_⟩
        exact (List.nodup_cons.mp nd2.2.1).1 (by rw [← y]; exact List.mem_map.mpr ⟨x, z, rfl⟩)
  have hd : dom (μ1 ++ (p, c') :: μ2) = dom (μ1 ++ (p, c) :: μ2) := by rw [e, e]
  refine ⟨⟨a.st.ext, fun b u h hn => ?_, a.st.new, fun x hx => a.st.cell x (by rw [← hd]; exact hx)⟩, ⟨fun b u h => ?_, fun x hx => ?_, by rw [hd]; exact nd, fun x hx => ?_⟩, a.fr⟩
  · have hb : b ≠ p := fun z => by
      rcases a.st.cell p (by rw [e]; exact List.mem_append_right _ List.mem_cons_self) with q | q
      · exact hn (by rw [z]; exact q)
      · rw [z] at h; rw [h] at q; cases q
    rw [upd_ne hb]
    exact a.st.keep b u h hn
  · rw [upd_ne (fun z => by rw [z, hF] at h; cases h)]; exact a.sx.sub _ _ h
  · rcases mem x hx with z | ⟨z, _⟩
    · rw [z]; exact hF
    · exact a.sx.off x z
  · rcases mem x hx with z | ⟨z, y⟩
    · rw [z]; exact hc
    · exact (a.sx.cells x z).mono (Same.refl F) (upd_ne y)
/-- from one start to an earlier one -/
theorem At.fr_set (a : At Γ F δ μ σ H) (i : Nat) {v : V} {d : D} (r : Dp Γ.X.K F d v) : At Γ F (δ.set i (some d)) μ (σ.set i (some v)) H := ⟨a.st, a.sx, a.fr.set i r⟩
theorem At.var (a : At Γ F δ μ σ H) {i : Nat} {d : D} (h : δ[i]? = some (some d)) : ∃ v, σ[i]? = some (some v) ∧ Dp Γ.X.K F d v := a.fr.2 i d h
end
end PD
/-! PD2: the judgements over data, the rules of expressions, statements, loops. -/
namespace PD
open PySem PySem.Spec PyProof.Rows L2
/-! ### the semantic readings -/
def we (X : Cx) (e : Expr) : TE := fun σ H Q => ∀ (pins : List (Addr × Obj)) (s : Shared), Inv X pins σ H s → wpAny (model X.prog X.w) X.A (eval e X.env) (EP X pins σ Q) X.xe s
def wt (X : Cx) (e : Expr) : TT := fun σ H Q => ∀ (pins : List (Addr × Obj)) (s : Shared), Inv X pins σ H s → wpAny (model X.prog X.w) X.A (isTrue e X.env (eval e X.env)) (TP X pins σ Q) X.xe s
def ww (X : Cx) (e : Expr) : TT := fun σ H Q => ∀ (whole : Sem Value) (pins : List (Addr × Obj)) (s : Shared), Inv X pins σ H s → wpAny (model X.prog X.w) X.A (isTrue e X.env whole) (TP X pins σ Q) X.xe s
def wa (X : Cx) (es : List Expr) : TA := fun σ H Q => ∀ (pos : Pos) (pins : List (Addr × Obj)) (s : Shared), Inv X pins σ H s → wpAny (model X.prog X.w) X.A (spliced (backTo pos (starEach es X.env))) (AP X pins σ Q) X.xe s
def ws (X : Cx) (st : Stmt) : TS := fun D σ H => ∀ (pins : List (Addr × Obj)) (s : Shared), Inv X pins σ H s → wpAny (model X.prog X.w) X.A (exec st X.env) (SP X pins D) X.xe s
def wss (X : Cx) (st : List Stmt) : TS := fun D σ H => ∀ (pins : List (Addr × Obj)) (s : Shared), Inv X pins σ H s → wpAny (model X.prog X.w) X.A (execs st X.env) (SP X pins D) X.xe s
def wg (X : Cx) (tg : Expr) : TG := fun v σ H Q => ∀ (pins : List (Addr × Obj)) (s : Shared) (u : Value), Inv X pins σ H s → RelV v u →
    wpAny (model X.prog X.w) X.A (assign tg X.env u) (fun _ s' => ∃ σ' H', Inv X pins σ' H' s' ∧ Q σ' H') X.xe s
def wgs (X : Cx) (ts : List Expr) : TGs := fun vs σ H Q => ∀ (pins : List (Addr × Obj)) (s : Shared) (us : List Value), Inv X pins σ H s → Vals vs us →
    wpAny (model X.prog X.w) X.A (assignInOrder ((assignEach ts X.env).map (·.2)) us) (fun _ s' => ∃ σ' H', Inv X pins σ' H' s' ∧ Q σ' H') X.xe s
def wi (X : Cx) (tg iter : Expr) : TI := fun σ H R => ∀ (pins : List (Addr × Obj)) (s : Shared), Inv X pins σ H s →
    wpAny (model X.prog X.w) X.A (eval iter X.env) (fun v s1 => wpAny (model X.prog X.w) X.A (pyIter v) (PIE X pins σ tg R) X.xe s1) X.xe s
def wo (X : Cx) (e : Option Expr) : TO := fun σ H Q => ∀ t : TO, PO X e t → True
section
variable {X : Cx} {e : Expr} {es : List Expr} {st : Stmt} {sts : List Stmt} {tg iter : Expr}
theorem pe_we : PE X e (we X e) := ⟨fun pins s _ _ _ I h => h pins s I⟩
theorem pt_wt : PT X e (wt X e) := ⟨fun pins s _ _ _ I h => h pins s I⟩
theorem pw_ww : PW X e (ww X e) := ⟨fun wh pins s _ _ _ I h => h wh pins s I⟩
theorem pa_wa : PA X es (wa X es) := ⟨fun pos pins s _ _ _ I h => h pos pins s I⟩
theorem ps_ws : PS X st (ws X st) := ⟨fun pins s _ _ _ I h => h pins s I⟩
theorem pss_wss : PSs X sts (wss X sts) := ⟨fun pins s _ _ _ I h => h pins s I⟩
theorem pg_wg : PG X tg (wg X tg) := ⟨fun pins s _ _ _ u _ I r h => h pins s u I r⟩
theorem pgs_wgs : PGs X es (wgs X es) := ⟨fun pins s _ _ _ us _ I r h => h pins s us I r⟩
theorem pi_wi : PI X tg iter (wi X tg iter) := ⟨fun pins s _ _ _ I h => h pins s I⟩
theorem we_of {t : TE} {σ : L2.St} {H : Hp} {Q : VK} (h : PE X e t) (k : t σ H Q) : we X e σ H Q := fun pins s I => h.run pins s σ H Q I k
theorem wt_of {t : TT} {σ : L2.St} {H : Hp} {Q : Bool → Hp → Prop} (h : PT X e t) (k : t σ H Q) : wt X e σ H Q := fun pins s I => h.run pins s σ H Q I k
theorem ww_of {t : TT} {σ : L2.St} {H : Hp} {Q : Bool → Hp → Prop} (h : PW X e t) (k : t σ H Q) : ww X e σ H Q := fun wh pins s I => h.run wh pins s σ H Q I k
theorem wa_of {t : TA} {σ : L2.St} {H : Hp} {Q : List V → Hp → Prop} (h : PA X es t) (k : t σ H Q) : wa X es σ H Q := fun pos pins s I => h.run pos pins s σ H Q I k
theorem ws_of {t : TS} {σ : L2.St} {H : Hp} {D : Ends} (h : PS X st t) (k : t D σ H) : ws X st D σ H := fun pins s I => h.run pins s σ H D I k
theorem wss_of {t : TS} {σ : L2.St} {H : Hp} {D : Ends} (h : PSs X sts t) (k : t D σ H) : wss X sts D σ H := fun pins s I => h.run pins s σ H D I k
theorem wg_of {t : TG} {v : V} {σ : L2.St} {H : Hp} {Q : L2.St → Hp → Prop} (h : PG X tg t) (k : t v σ H Q) : wg X tg v σ H Q := fun pins s u I r => h.run pins s σ H v u Q I r k
theorem wgs_of {t : TGs} {vs : List V} {σ : L2.St} {H : Hp} {Q : L2.St → Hp → Prop} (h : PGs X es t) (k : t vs σ H Q) : wgs X es vs σ H Q := fun pins s us I r => h.run pins s σ H vs us Q I r k
theorem wi_of {t : TI} {σ : L2.St} {H : Hp} {R : It → Hp → Prop} (h : PI X tg iter t) (k : t σ H R) : wi X tg iter σ H R := fun pins s I => h.run pins s σ H R I k
theorem we_mono {σ : L2.St} {H : Hp} {Q Q' : VK} (h : we X e σ H Q) (k : ∀ v H', Q v H' → Q' v H') : we X e σ H Q' := fun pins s I =>
  thn (h pins s I) fun u s1 ⟨v, H1, I1, r, q⟩ => ⟨v, H1, I1, r, k v H1 q⟩
theorem wt_mono {σ : L2.St} {H : Hp} {Q Q' : Bool → Hp → Prop} (h : wt X e σ H Q) (k : ∀ v H', Q v H' → Q' v H') : wt X e σ H Q' := fun pins s I =>
  thn (h pins s I) fun u s1 ⟨H1, I1, q⟩ => ⟨H1, I1, k u H1 q⟩
theorem ww_mono {σ : L2.St} {H : Hp} {Q Q' : Bool → Hp → Prop} (h : ww X e σ H Q) (k : ∀ v H', Q v H' → Q' v H') : ww X e σ H Q' := fun wh pins s I =>
  thn (h wh pins s I) fun u s1 ⟨H1, I1, q⟩ => ⟨H1, I1, k u H1 q⟩
theorem wa_mono {σ : L2.St} {H : Hp} {Q Q' : List V → Hp → Prop} (h : wa X es σ H Q) (k : ∀ v H', Q v H' → Q' v H') : wa X es σ H Q' := fun pos pins s I =>
  thn (h pos pins s I) fun u s1 ⟨v, H1, I1, r, q⟩ => ⟨v, H1, I1, r, k v H1 q⟩
theorem wg_mono {v : V} {σ : L2.St} {H : Hp} {Q Q' : L2.St → Hp → Prop} (h : wg X tg v σ H Q) (k : ∀ σ' H', Q σ' H' → Q' σ' H') : wg X tg v σ H Q' := fun pins s u I r =>
  thn (h pins s u I r) fun _ s1 ⟨σ', H1, I1, q⟩ => ⟨σ', H1, I1, k σ' H1 q⟩
theorem wgs_mono {vs : List V} {σ : L2.St} {H : Hp} {Q Q' : L2.St → Hp → Prop} (h : wgs X es vs σ H Q) (k : ∀ σ' H', Q σ' H' → Q' σ' H') : wgs X es vs σ H Q' := fun pins s u I r =>
  thn (h pins s u I r) fun _ s1 ⟨σ', H1, I1, q⟩ => ⟨σ', H1, I1, k σ' H1 q⟩
theorem wi_mono {σ : L2.St} {H : Hp} {R R' : It → Hp → Prop} (h : wi X tg iter σ H R) (k : ∀ J H', R J H' → R' J H') : wi X tg iter σ H R' := fun pins s I =>
  thn (h pins s I) fun v s1 q => thn q fun itv s2 ⟨it, fp, tn, J, H', e, I2, T, st, f, r⟩ => ⟨it, fp, tn, J, H', e, I2, T, st, f, k J H' r⟩
structure EndsLe (D D' : Ends) : Prop where
  nx : ∀ σ H, D.nx σ H → D'.nx σ H
  rt : ∀ v H, D.rt v H → D'.rt v H
  bk : ∀ σ H, D.bk σ H → D'.bk σ H
  ct : ∀ σ H, D.ct σ H → D'.ct σ H
theorem SP_mono {pins : List (Addr × Obj)} {D D' : Ends} (l : EndsLe D D') {f : Flow} {s' : Shared} (h : SP X pins D f s') : SP X pins D' f s' := by
  cases f with
  | next => obtain ⟨σ', H', I, q⟩ := h; exact ⟨σ', H', I, l.nx _ _ q⟩
  | brk => obtain ⟨σ', H', I, q⟩ := h; exact ⟨σ', H', I, l.bk _ _ q⟩
  | cont => obtain ⟨σ', H', I, q⟩ := h; exact ⟨σ', H', I, l.ct _ _ q⟩
  | ret u => obtain ⟨v, σ', H', I, r, q⟩ := h; exact ⟨v, σ', H', I, r, l.rt _ _ q⟩
theorem ws_mono {σ : L2.St} {H : Hp} {D D' : Ends} (h : ws X st D σ H) (l : EndsLe D D') : ws X st D' σ H := fun pins s I => thn (h pins s I) fun _ _ q => SP_mono l q
theorem wss_mono {σ : L2.St} {H : Hp} {D D' : Ends} (h : wss X sts D σ H) (l : EndsLe D D') : wss X sts D' σ H := fun pins s I => thn (h pins s I) fun _ _ q => SP_mono l q
end
/-! ### the judgements over data -/
def PostE (Γ : Ct) (F : Hp) (δ : Dl) (σ : L2.St) (Q : D → Mu → Prop) : VK := fun v H' => ∃ F' d μ', Same F F' ∧ At Γ F' δ μ' σ H' ∧ Dp Γ.X.K F' d v ∧ Q d μ'
def PostA (Γ : Ct) (F : Hp) (δ : Dl) (σ : L2.St) (Q : List D → Mu → Prop) : List V → Hp → Prop := fun vs H' => ∃ F' ds μ', Same F F' ∧ At Γ F' δ μ' σ H' ∧ Dps Γ.X.K F' ds vs ∧ Q ds μ'
def PostT (Γ : Ct) (F : Hp) (δ : Dl) (σ : L2.St) (Q : Bool → Mu → Prop) : Bool → Hp → Prop := fun b H' => ∃ F' μ', Same F F' ∧ At Γ F' δ μ' σ H' ∧ Q b μ'
def PostN (Γ : Ct) (F : Hp) (Q : Dl → Mu → Prop) : L2.St → Hp → Prop := fun σ' H' => ∃ F' δ' μ', Same F F' ∧ At Γ F' δ' μ' σ' H' ∧ Q δ' μ'
def PostR (Γ : Ct) (F : Hp) (Q : D → Mu → Prop) : VK := fun v H' => ∃ F' d μ', Same F F' ∧ Step Γ.F0 Γ.μ0 Γ.H0 F' μ' H' ∧ Sx Γ.X.K F' μ' H' ∧ Dp Γ.X.K F' d v ∧ Q d μ'
structure En where
  nx : Dl → Mu → Prop
  rt : D → Mu → Prop
  bk : Dl → Mu → Prop := fun _ _ => False
  ct : Dl → Mu → Prop := fun _ _ => False
def En.to (E : En) (Γ : Ct) (F : Hp) : Ends := ⟨PostN Γ F E.nx, PostR Γ F E.rt, PostN Γ F E.bk, PostN Γ F E.ct⟩
def ed (Γ : Ct) (e : Expr) (δ : Dl) (μ : Mu) (Q : D → Mu → Prop) : Prop := ∀ F σ H, At Γ F δ μ σ H → we Γ.X e σ H (PostE Γ F δ σ Q)
def et (Γ : Ct) (e : Expr) (δ : Dl) (μ : Mu) (Q : Bool → Mu → Prop) : Prop := ∀ F σ H, At Γ F δ μ σ H → wt Γ.X e σ H (PostT Γ F δ σ Q)
def ew (Γ : Ct) (e : Expr) (δ : Dl) (μ : Mu) (Q : Bool → Mu → Prop) : Prop := ∀ F σ H, At Γ F δ μ σ H → ww Γ.X e σ H (PostT Γ F δ σ Q)
def ea (Γ : Ct) (es : List Expr) (δ : Dl) (μ : Mu) (Q : List D → Mu → Prop) : Prop := ∀ F σ H, At Γ F δ μ σ H → wa Γ.X es σ H (PostA Γ F δ σ Q)
def sd (Γ : Ct) (st : Stmt) (δ : Dl) (μ : Mu) (E : En) : Prop := ∀ F σ H, At Γ F δ μ σ H → ws Γ.X st (E.to Γ F) σ H
def sds (Γ : Ct) (st : List Stmt) (δ : Dl) (μ : Mu) (E : En) : Prop := ∀ F σ H, At Γ F δ μ σ H → wss Γ.X st (E.to Γ F) σ H
def gd (Γ : Ct) (tg : Expr) (d : D) (δ : Dl) (μ : Mu) (Q : Dl → Mu → Prop) : Prop := ∀ F σ H v, At Γ F δ μ σ H → Dp Γ.X.K F d v → wg Γ.X tg v σ H (PostN Γ F Q)
def gds (Γ : Ct) (tg : List Expr) (ds : List D) (δ : Dl) (μ : Mu) (Q : Dl → Mu → Prop) : Prop := ∀ F σ H vs, At Γ F δ μ σ H → Dps Γ.X.K F ds vs → wgs Γ.X tg vs σ H (PostN Γ F Q)
section
variable {Γ : Ct} {F F' H H' : Hp} {δ : Dl} {μ : Mu} {σ : L2.St}
theorem PostN.up {Q : Dl → Mu → Prop} (e : Same F F') {σ' : L2.St} {H' : Hp} (h : PostN Γ F' Q σ' H') : PostN Γ F Q σ' H' := by
  obtain ⟨F2, δ', μ', s, a, q⟩ := h; exact ⟨F2, δ', μ', e.trans s, a, q⟩
theorem PostR.up {Q : D → Mu → Prop} (e : Same F F') {v : V} {H' : Hp} (h : PostR Γ F' Q v H') : PostR Γ F Q v H' := by
  obtain ⟨F2, d, μ', s, a, q⟩ := h; exact ⟨F2, d, μ', e.trans s, a, q⟩
theorem PostE.up {Q : D → Mu → Prop} (e : Same F F') {v : V} {H' : Hp} (h : PostE Γ F' δ σ Q v H') : PostE Γ F δ σ Q v H' := by
  obtain ⟨F2, d, μ', s, a, q⟩ := h; exact ⟨F2, d, μ', e.trans s, a, q⟩
theorem PostT.up {Q : Bool → Mu → Prop} (e : Same F F') {v : Bool} {H' : Hp} (h : PostT Γ F' δ σ Q v H') : PostT Γ F δ σ Q v H' := by
  obtain ⟨F2, μ', s, a, q⟩ := h; exact ⟨F2, μ', e.trans s, a, q⟩
theorem PostA.up {Q : List D → Mu → Prop} (e : Same F F') {v : List V} {H' : Hp} (h : PostA Γ F' δ σ Q v H') : PostA Γ F δ σ Q v H' := by
  obtain ⟨F2, d, μ', s, a, q⟩ := h; exact ⟨F2, d, μ', e.trans s, a, q⟩
theorem En.up {E : En} (e : Same F F') : EndsLe (E.to Γ F') (E.to Γ F) := ⟨fun _ _ h => h.up e, fun _ _ h => h.up e, fun _ _ h => h.up e, fun _ _ h => h.up e⟩
structure EnLe (E E' : En) : Prop where
  nx : ∀ δ μ, E.nx δ μ → E'.nx δ μ
  rt : ∀ d μ, E.rt d μ → E'.rt d μ
  bk : ∀ δ μ, E.bk δ μ → E'.bk δ μ
  ct : ∀ δ μ, E.ct δ μ → E'.ct δ μ
theorem PostN.mono {Q Q' : Dl → Mu → Prop} {σ' : L2.St} {H' : Hp} (h : PostN Γ F Q σ' H') (k : ∀ δ μ, Q δ μ → Q' δ μ) : PostN Γ F Q' σ' H' := by
  obtain ⟨F2, δ', μ', s, a, q⟩ := h; exact ⟨F2, δ', μ', s, a, k _ _ q⟩
theorem PostR.mono {Q Q' : D → Mu → Prop} {v : V} {H' : Hp} (h : PostR Γ F Q v H') (k : ∀ δ μ, Q δ μ → Q' δ μ) : PostR Γ F Q' v H' := by
  obtain ⟨F2, d, μ', s, a, b, r, q⟩ := h; exact ⟨F2, d, μ', s, a, b, r, k _ _ q⟩
theorem EnLe.to {E E' : En} (l : EnLe E E') : EndsLe (E.to Γ F) (E'.to Γ F) := ⟨fun _ _ h => h.mono l.nx, fun _ _ h => h.mono l.rt, fun _ _ h => h.mono l.bk, fun _ _ h => h.mono l.ct⟩
theorem sd_mono {st : Stmt} {E E' : En} (h : sd Γ st δ μ E) (l : EnLe E E') : sd Γ st δ μ E' := fun F σ H a => ws_mono (h F σ H a) l.to
theorem ed_mono {e : Expr} {Q Q' : D → Mu → Prop} (h : ed Γ e δ μ Q) (k : ∀ d μ, Q d μ → Q' d μ) : ed Γ e δ μ Q' := fun F σ H a => we_mono (h F σ H a) fun v H' ⟨F', d, μ', s, a', r, q⟩ => ⟨F', d, μ', s, a', r, k _ _ q⟩
theorem et_mono {e : Expr} {Q Q' : Bool → Mu → Prop} (h : et Γ e δ μ Q) (k : ∀ d μ, Q d μ → Q' d μ) : et Γ e δ μ Q' := fun F σ H a => wt_mono (h F σ H a) fun v H' ⟨F', μ', s, a', q⟩ => ⟨F', μ', s, a', k _ _ q⟩
end
/-! ### names, constants -/
section
variable {Γ : Ct} {δ : Dl} {μ : Mu} {Q : D → Mu → Prop} {pos : Pos} {a b e : Expr}
theorem PostE.here {F : Hp} {H : Hp} {σ : L2.St} {d : D} {v : V} (h : At Γ F δ μ σ H) (r : Dp Γ.X.K F d v) (q : Q d μ) : PostE Γ F δ σ Q v H := ⟨F, d, μ, Same.refl F, h, r, q⟩
/-- a thing known from now on -/
theorem PostE.new {F : Hp} {H : Hp} {σ : L2.St} {d : D} {p : Addr} {o : HO} (h : At Γ F δ μ σ H) (hp : H p = none) (r : Dp Γ.X.K (upd F p o) d (.ref p)) (q : Q d μ) : PostE Γ F δ σ Q (.ref p) (upd H p o) :=
  ⟨upd F p o, d, μ, same_upd (h.sx.sub.free hp), h.pers o hp, r, q⟩
theorem PostE.own {F : Hp} {H : Hp} {σ : L2.St} {p : Addr} {o : HO} {c : Cell} (h : At Γ F δ μ σ H) (hp : H p = none) (hc : CellOk Γ.X.K F (upd H p o) p c) (q : Q (.ref p) ((p, c) :: μ)) : PostE Γ F δ σ Q (.ref p) (upd H p o) :=
  ⟨F, .ref p, (p, c) :: μ, Same.refl F, h.own hp hc, by rw [Dp], q⟩
theorem ed_name {i : Nat} {x : Str} {d : D} (hN : Γ.X.N[i]? = some x) (hδ : δ[i]? = some (some d)) (q : Q d μ) (hv : Vis Γ.X.env.scope x := by first | exact Or.inl rfl | exact Or.inr (Or.inl rfl) | exact Or.inr (Or.inr rfl))
    (hd : (x == ("__debug__" : Str)) = false := by decide +kernel) (hcd : (x == ("__classdict__" : Str)) = false := by decide +kernel) : ed Γ (.Name x pos) δ μ Q := fun F σ H h => by
  obtain ⟨v, e1, r⟩ := h.var hδ
  exact we_of (pe_var hN hv hd hcd) ⟨v, e1, PostE.here h r q⟩
theorem ed_int {i j} (q : Q (.int i) μ) : ed Γ (.Constant (.int i) j pos) δ μ Q := fun F σ H h => we_of pe_int (PostE.here (v := .int i) h (by rw [Dp]) q)
theorem ed_bl {i j} (q : Q (.bl i) μ) : ed Γ (.Constant (.bool i) j pos) δ μ Q := fun F σ H h => we_of pe_bl (PostE.here (v := .bl i) h (by rw [Dp]) q)
theorem ed_str {i j} (q : Q (.str i) μ) : ed Γ (.Constant (.str i) j pos) δ μ Q := fun F σ H h => we_of pe_str (PostE.here (v := .str i) h (by rw [Dp]) q)
theorem ed_non {j} (q : Q .non μ) : ed Γ (.Constant .none j pos) δ μ Q := fun F σ H h => we_of pe_non (PostE.here (v := .non) h (by rw [Dp]) q)
theorem ed_glob {x : Str} {v : V} {u : Value} {d : D} (hm : Γ.X.mg x = some u) (r : RelV v u) (hD : ∀ F, Dp Γ.X.K F d v) (q : Q d μ) (hg : Gl Γ.X x := by rfl) (hd : (x == ("__debug__" : Str)) = false := by decide +kernel) : ed Γ (.Name x pos) δ μ Q := fun F σ H h =>
  we_of (pe_glob hg hm r hd) (PostE.here (v := v) h (hD F) q)
/-! ### operators, calls, subscripts: semantic -/
/-- what a two-place function does with values -/
def rwf (X : Cx) (f : Value → Value → Sem Value) : R2 := fun x y H Q => ∀ (pins : List (Addr × Obj)) (s : Shared) (σ : L2.St) (v u : Value), Inv X pins σ H s → RelV x v → RelV y u → wpAny (model X.prog X.w) X.A (f v u) (EP X pins σ Q) X.xe s
theorem rwf_ok {X : Cx} {f : Value → Value → Sem Value} : OpR X f (rwf X f) := fun pins s σ H x y v u Q I rx ry h => h pins s σ v u I rx ry
theorem EP_mono {X : Cx} {pins : List (Addr × Obj)} {σ : L2.St} {Q Q' : VK} {u : Value} {s : Shared} (h : EP X pins σ Q u s) (k : ∀ v H, Q v H → Q' v H) : EP X pins σ Q' u s := by
  obtain ⟨v, H, I, r, q⟩ := h; exact ⟨v, H, I, r, k v H q⟩
theorem rwf_mono {X : Cx} {f : Value → Value → Sem Value} {x y : V} {H : Hp} {Q Q' : VK} (h : rwf X f x y H Q) (k : ∀ v H', Q v H' → Q' v H') : rwf X f x y H Q' := fun pins s σ v u I rx ry => thn (h pins s σ v u I rx ry) fun _ _ e => EP_mono e k
def opd (Γ : Ct) (f : Value → Value → Sem Value) (x y : D) (δ : Dl) (μ : Mu) (Q : D → Mu → Prop) : Prop := ∀ F σ H vx vy, At Γ F δ μ σ H → Dp Γ.X.K F x vx → Dp Γ.X.K F y vy → rwf Γ.X f vx vy H (PostE Γ F δ σ Q)
theorem ed_two {f : Value → Value → Sem Value} (h : ed Γ a δ μ fun x μ1 => ed Γ b δ μ1 fun y μ2 => opd Γ f x y δ μ2 Q) (F σ H) (at_ : At Γ F δ μ σ H) : tOp (rwf Γ.X f) (we Γ.X a) (we Γ.X b) σ H (PostE Γ F δ σ Q) := by
  refine we_mono (h F σ H at_) fun x H1 ⟨F1, d1, μ1, s1, h1, r1, q1⟩ => ?_
  refine we_mono (q1 F1 σ H1 h1) fun y H2 ⟨F2, d2, μ2, s2, h2, r2, q2⟩ => ?_
  exact rwf_mono (q2 F2 σ H2 x y h2 (r1.mono s2) r2) fun v H' z => PostE.up (s1.trans s2) z
theorem ed_bin {op : Operator} (h : ed Γ a δ μ fun x μ1 => ed Γ b δ μ1 fun y μ2 => opd Γ (binaryOp op) x y δ μ2 Q) : ed Γ (.BinOp a op b pos) δ μ Q := fun F σ H at_ => we_of (pe_op rwf_ok pe_we pe_we) (ed_two h F σ H at_)
theorem ed_cmp {op : CmpOp} (hb : behindInMarks op b = false) (h : ed Γ a δ μ fun x μ1 => ed Γ b δ μ1 fun y μ2 => opd Γ (compareOp op) x y δ μ2 Q) : ed Γ (.Compare a [op] [b] pos) δ μ Q := fun F σ H at_ => we_of (pe_cmpR rwf_ok pe_we pe_we hb) (ed_two h F σ H at_)
theorem et_cmp {op : CmpOp} {Q : Bool → Mu → Prop} (hb : behindInMarks op b = false) (h : ed Γ a δ μ fun x μ1 => ed Γ b δ μ1 fun y μ2 => opd Γ (compareOp op) x y δ μ2 fun d μ' => ∃ c, d = .bl c ∧ Q c μ') : et Γ (.Compare a [op] [b] pos) δ μ Q := fun F σ H at_ => by
  refine wt_of (pt_cmpR rwf_ok pe_we pe_we hb) (we_mono (ed_two h F σ H at_) fun x H1 z1 => we_mono z1 fun y H2 z2 => rwf_mono z2 fun v H' z3 => ?_)
  obtain ⟨F', d, μ', s, a', rr, c, rfl, q⟩ := z3
  rw [Dp] at rr
  exact ⟨c, rr, F', μ', s, a', q⟩
/-- a < b < c -/
theorem ed_chain {op op' : CmpOp} {c : Expr} (h : ed Γ a δ μ fun x μ1 => ed Γ b δ μ1 fun y μ2 => opd Γ (compareOp op) x y δ μ2 fun d μ3 => ∃ k, d = .bl k ∧ if k = true then ed Γ c δ μ3 fun z μ4 => opd Γ (compareOp op') y z δ μ4 Q else Q (.bl false) μ3)
    (hm : lastMarks [op, op'] [b, c] = false := by with_unfolding_all rfl) : ed Γ (.Compare a [op, op'] [b, c] pos) δ μ Q := fun F σ H at_ => by
  refine we_of (pe_chain rwf_ok rwf_ok pe_we pe_we pe_we hm) ?_
  refine we_mono (h F σ H at_) fun x H1 ⟨F1, d1, μ1, s1, h1, r1, q1⟩ => ?_
  refine we_mono (q1 F1 σ H1 h1) fun y H2 ⟨F2, d2, μ2, s2, h2, r2, q2⟩ => ?_
  refine rwf_mono (q2 F2 σ H2 x y h2 (r1.mono s2) r2) fun v H3 ⟨F3, d3, μ3, s3, h3, r3, k, e3, q3⟩ => ?_
  subst e3
  rw [Dp] at r3
  refine ⟨k, r3, ?_⟩
  cases k with
  | true =>
    rw [if_pos rfl] at q3 ⊢
    refine we_mono (q3 F3 σ H3 h3) fun z H4 ⟨F4, d4, μ4, s4, h4, r4, q4⟩ => ?_
    exact rwf_mono (q4 F4 σ H4 y z h4 ((r2.mono s3).mono s4) r4) fun v H' z => PostE.up (((s1.trans s2).trans s3).trans s4) z
  | false =>
    rw [if_neg Bool.false_ne_true] at q3 ⊢
    exact PostE.up ((s1.trans s2).trans s3) (PostE.here (d := .bl false) h3 (by rw [Dp]) q3)
def ruf (X : Cx) (f : Value → Sem Value) : V → Hp → VK → Prop := fun x H Q => ∀ (pins : List (Addr × Obj)) (s : Shared) (σ : L2.St) (v : Value), Inv X pins σ H s → RelV x v → wpAny (model X.prog X.w) X.A (f v) (EP X pins σ Q) X.xe s
theorem ruf_ok {X : Cx} {f : Value → Sem Value} : UnR X f (ruf X f) := fun pins s σ H x v Q I rx h => h pins s σ v I rx
theorem ruf_mono {X : Cx} {f : Value → Sem Value} {x : V} {H : Hp} {Q Q' : VK} (h : ruf X f x H Q) (k : ∀ v H', Q v H' → Q' v H') : ruf X f x H Q' := fun pins s σ v I rx => thn (h pins s σ v I rx) fun _ _ e => EP_mono e k
def und (Γ : Ct) (f : Value → Sem Value) (x : D) (δ : Dl) (μ : Mu) (Q : D → Mu → Prop) : Prop := ∀ F σ H vx, At Γ F δ μ σ H → Dp Γ.X.K F x vx → ruf Γ.X f vx H (PostE Γ F δ σ Q)
theorem ed_un {op : UnaryOp} (h : ed Γ a δ μ fun x μ1 => und Γ (unaryOp op) x δ μ1 Q) : ed Γ (.UnaryOp op a pos) δ μ Q := fun F σ H at_ => we_of (pe_un ruf_ok pe_we) (we_mono (h F σ H at_) fun x H1 ⟨F1, d1, μ1, s1, h1, r1, q1⟩ => ruf_mono (q1 F1 σ H1 x h1 r1) fun v H' z => PostE.up s1 z)
/-- a known value called with values -/
def rcf (X : Cx) (f : Value) : List V → Hp → VK → Prop := fun xs H Q => ∀ (pins : List (Addr × Obj)) (s : Shared) (σ : L2.St) (us : List Value), Inv X pins σ H s → Vals xs us → wpAny (model X.prog X.w) X.A (call f us) (EP X pins σ Q) X.xe s
theorem rcf_ok {X : Cx} {f : Value} : CallR X f (rcf X f) := fun pins s σ H x v Q I rx h => h pins s σ v I rx
theorem rcf_mono {X : Cx} {f : Value} {x : List V} {H : Hp} {Q Q' : VK} (h : rcf X f x H Q) (k : ∀ v H', Q v H' → Q' v H') : rcf X f x H Q' := fun pins s σ v I rx => thn (h pins s σ v I rx) fun _ _ e => EP_mono e k
def cld (Γ : Ct) (f : Value) (xs : List D) (δ : Dl) (μ : Mu) (Q : D → Mu → Prop) : Prop := ∀ F σ H vs, At Γ F δ μ σ H → Dps Γ.X.K F xs vs → rcf Γ.X f vs H (PostE Γ F δ σ Q)
theorem ed_callB {x : Str} {id : String} {es : List Expr} {p : Pos} (hm : Γ.X.mg x = none) (hv : bootBuiltins x = some (.builtin id)) (h : ea Γ (e :: es) δ μ fun xs μ1 => cld Γ (.builtin id) xs δ μ1 Q) (hg : Gl Γ.X x := by rfl)
    (hn : x ≠ "__name__" := by decide +kernel) (hdb : (x == ("__debug__" : Str)) = false := by decide +kernel)
    (he : starEach (e :: es) Γ.X.env = (false, eval e Γ.X.env) :: starEach es Γ.X.env := by rfl) (hpl : (backTo pos (starEach es Γ.X.env)).any (·.1) = false := by rfl) : ed Γ (.Call (.Name x p) (e :: es) [] pos) δ μ Q := fun F σ H at_ =>
  we_of (pe_callB rcf_ok hg hm hv pa_wa hn hdb he hpl) (wa_mono (h F σ H at_) fun vs H1 ⟨F1, d1, μ1, s1, h1, r1, q1⟩ => rcf_mono (q1 F1 σ H1 vs h1 r1) fun v H' z => PostE.up s1 z)
theorem ed_callTy {x : Str} {T : String} {es : List Expr} {p : Pos} (hm : Γ.X.mg x = none) (hv : bootBuiltins x = some (.type T)) (h : ea Γ (e :: es) δ μ fun xs μ1 => cld Γ (.type T) xs δ μ1 Q) (hg : Gl Γ.X x := by rfl)
    (hn : x ≠ "__name__" := by decide +kernel) (hdb : (x == ("__debug__" : Str)) = false := by decide +kernel)
    (he : starEach (e :: es) Γ.X.env = (false, eval e Γ.X.env) :: starEach es Γ.X.env := by rfl) (hpl : (backTo pos (starEach es Γ.X.env)).any (·.1) = false := by rfl) : ed Γ (.Call (.Name x p) (e :: es) [] pos) δ μ Q := fun F σ H at_ =>
  we_of (pe_callTy rcf_ok hg hm hv pa_wa hn hdb he hpl) (wa_mono (h F σ H at_) fun vs H1 ⟨F1, d1, μ1, s1, h1, r1, q1⟩ => rcf_mono (q1 F1 σ H1 vs h1 r1) fun v H' z => PostE.up s1 z)
/-- a[b] -/
def rxf (X : Cx) : R2 := fun x y H Q => ∀ (value slice : Expr) (pins : List (Addr × Obj)) (s : Shared) (σ : L2.St) (v u : Value), Inv X pins σ H s → RelV x v → RelV y u →
    subscripted slice false v u = operate [v, u] (getItem v u) → wpAny (model X.prog X.w) X.A (subscriptTail value slice v u) (EP X pins σ Q) X.xe s
theorem rxf_ok {X : Cx} : IxR X (rxf X) := fun value slice pins s σ H x y v u Q I rx ry h hs => h value slice pins s σ v u I rx ry hs
theorem rxf_mono {X : Cx} {x y : V} {H : Hp} {Q Q' : VK} (h : rxf X x y H Q) (k : ∀ v H', Q v H' → Q' v H') : rxf X x y H Q' := fun va sl pins s σ v u I rx ry hs => thn (h va sl pins s σ v u I rx ry hs) fun _ _ e => EP_mono e k
def ixd (Γ : Ct) (x y : D) (δ : Dl) (μ : Mu) (Q : D → Mu → Prop) : Prop := ∀ F σ H vx vy, At Γ F δ μ σ H → Dp Γ.X.K F x vx → Dp Γ.X.K F y vy → rxf Γ.X vx vy H (PostE Γ F δ σ Q)
theorem ed_ix (h : ed Γ a δ μ fun x μ1 => ed Γ b δ μ1 fun y μ2 => ixd Γ x y δ μ2 Q) (hs : PlainIx b := by exact fun _ _ => rfl) : ed Γ (.Subscript a b pos) δ μ Q := fun F σ H at_ => we_of (pe_ix rxf_ok pe_we pe_we hs) (by
  refine we_mono (h F σ H at_) fun x H1 ⟨F1, d1, μ1, s1, h1, r1, q1⟩ => ?_
  refine we_mono (q1 F1 σ H1 h1) fun y H2 ⟨F2, d2, μ2, s2, h2, r2, q2⟩ => ?_
  exact rxf_mono (q2 F2 σ H2 x y h2 (r1.mono s2) r2) fun v H' z => PostE.up (s1.trans s2) z)
def eo (Γ : Ct) (e : Option Expr) (δ : Dl) (μ : Mu) (Q : Option Int → Mu → Prop) : Prop := match e with
  | none => Q none μ
  | some e => ed Γ e δ μ fun d μ' => ∃ i, d = .int i ∧ Q (some i) μ'
def sld (Γ : Ct) (r : V → Option Int → Option Int → Hp → VK → Prop) (x : D) (lo hi : Option Int) (δ : Dl) (μ : Mu) (Q : D → Mu → Prop) : Prop := ∀ F σ H vx, At Γ F δ μ σ H → Dp Γ.X.K F x vx → r vx lo hi H (PostE Γ F δ σ Q)
def tOptE (X : Cx) : Option Expr → TO
  | none => tNoPart
  | some e => tPart (we X e)
theorem po_opt {X : Cx} : ∀ e : Option Expr, PO X e (tOptE X e)
  | none => po_none
  | some _ => po_some pe_we
theorem eo_run {o : Option Expr} {Q : Option Int → Mu → Prop} (h : eo Γ o δ μ Q) (F σ H) (at_ : At Γ F δ μ σ H) {R : Option Int → Hp → Prop} (k : ∀ i F' H' μ', Same F F' → At Γ F' δ μ' σ H' → Q i μ' → R i H') : tOptE Γ.X o σ H R := by
  cases o with
  | none => exact k _ F H μ (Same.refl F) at_ h
  | some e =>
    refine we_mono (h F σ H at_) fun x H1 ⟨F1, d1, μ1, s1, h1, r1, i, e1, q1⟩ => ?_
    subst e1
    rw [Dp] at r1
    exact ⟨i, r1, k _ F1 H1 μ1 s1 h1 q1⟩
theorem ed_slice {lo hi : Option Expr} {p2 : Pos} {r : V → Option Int → Option Int → Hp → VK → Prop} (hr : SlR Γ.X r) (hmono : ∀ x l u H Q Q', (∀ v H', Q v H' → Q' v H') → r x l u H Q → r x l u H Q')
    (h : ed Γ a δ μ fun x μ1 => eo Γ lo δ μ1 fun l μ2 => eo Γ hi δ μ2 fun u μ3 => sld Γ r x l u δ μ3 Q) : ed Γ (.Subscript a (.Slice lo hi none p2) pos) δ μ Q := fun F σ H at_ => by
  refine we_of (pe_slice hr pe_we (po_opt lo) (po_opt hi)) (we_mono (h F σ H at_) fun x H1 ⟨F1, d1, μ1, s1, h1, r1, q1⟩ => ?_)
  refine eo_run q1 F1 σ H1 h1 fun l F2 H2 μ2 s2 h2 q2 => ?_
  refine eo_run q2 F2 σ H2 h2 fun u F3 H3 μ3 s3 h3 q3 => ?_
  exact hmono _ _ _ _ _ _ (fun v H' z => PostE.up ((s1.trans s2).trans s3) z) (q3 F3 σ H3 x h3 ((r1.mono s2).mono s3))
/-- o.m(..) of a built-in type -/
def rmf (X : Cx) (id : String) : V → List V → Hp → VK → Prop := fun x xs H Q => ∀ (pins : List (Addr × Obj)) (s : Shared) (σ : L2.St) (v : Value) (us : List Value), Inv X pins σ H s → RelV x v → Vals xs us → wpAny (model X.prog X.w) X.A (call (.builtin id) (v :: us)) (EP X pins σ Q) X.xe s
theorem rmf_ok {X : Cx} {id : String} : MtR X id (rmf X id) := fun pins s σ H x xs v us Q I rx rs h => h pins s σ v us I rx rs
theorem rmf_mono {X : Cx} {id : String} {x : V} {xs : List V} {H : Hp} {Q Q' : VK} (h : rmf X id x xs H Q) (k : ∀ v H', Q v H' → Q' v H') : rmf X id x xs H Q' := fun pins s σ v us I rx rs => thn (h pins s σ v us I rx rs) fun _ _ e => EP_mono e k
/-- the receiver's type, over data -/
def tyD (T : String) (x : D) (μ : Mu) : Prop := match x with
  | .str _ => T = "str"
  | .lst _ => T = "list"
  | .dK _ _ => T = "dict"
  | .ref p => (∃ ds, (p, Cell.lst ds) ∈ μ ∧ T = "list") ∨ (∃ ks ds, (p, Cell.dK ks ds) ∈ μ ∧ T = "dict") ∨ (∃ ks ds, (p, Cell.dT ks ds) ∈ μ ∧ T = "dict") ∨ (∃ S n, (p, Cell.set S n) ∈ μ ∧ T = "set")
  | _ => False
def mtd (Γ : Ct) (id : String) (x : D) (xs : List D) (δ : Dl) (μ : Mu) (Q : D → Mu → Prop) : Prop := ∀ F σ H vx vs, At Γ F δ μ σ H → Dp Γ.X.K F x vx → Dps Γ.X.K F xs vs → rmf Γ.X id vx vs H (PostE Γ F δ σ Q)
/-- a bool as a test -/
theorem et_val {Q : Bool → Mu → Prop} (h : ed Γ e δ μ fun d μ' => ∃ c, d = .bl c ∧ Q c μ') (he : ∀ whole, isTrue e Γ.X.env whole = (do let v ← whole; standAt e.pos; holding [v] (truthy v)) := by intro _; rfl) : et Γ e δ μ Q := fun F σ H at_ => by
  refine wt_of (pt_val pe_we he) (we_mono (h F σ H at_) fun v H' ⟨F', d, μ', s, a', rr, c, e1, q⟩ => ?_)
  subst e1
  rw [Dp] at rr
  exact ⟨c, rr, F', μ', s, a', q⟩
theorem et_not {Q : Bool → Mu → Prop} (h : et Γ e δ μ fun c μ' => Q (!c) μ') : et Γ (.UnaryOp .Not e pos) δ μ Q := fun F σ H at_ => wt_of (pt_not pt_wt) (wt_mono (h F σ H at_) fun c H' ⟨F', μ', s, a', q⟩ => ⟨F', μ', s, a', q⟩)
theorem ew_and1 {Q : Bool → Mu → Prop} (h : et Γ e δ μ Q) : ew Γ (.BoolOp .And [e] pos) δ μ Q := fun F σ H at_ => ww_of (pw_and1 pt_wt) (h F σ H at_)
theorem ew_or1 {Q : Bool → Mu → Prop} (h : et Γ e δ μ Q) : ew Γ (.BoolOp .Or [e] pos) δ μ Q := fun F σ H at_ => ww_of (pw_or1 pt_wt) (h F σ H at_)
theorem ew_and {rest : List Expr} {Q : Bool → Mu → Prop} (h : et Γ a δ μ fun c μ' => if c = true then ew Γ (.BoolOp .And (b :: rest) pos) δ μ' Q else Q false μ') : ew Γ (.BoolOp .And (a :: b :: rest) pos) δ μ Q := fun F σ H at_ => by
  refine ww_of (pw_and pt_wt pw_ww) (wt_mono (h F σ H at_) fun c H' ⟨F', μ', s, a', q⟩ => ?_)
  cases c with
  | true =>
    rw [if_pos rfl] at q ⊢
    exact ww_mono (q F' σ H' a') fun c H2 z => z.up s
  | false =>
    rw [if_neg Bool.false_ne_true] at q ⊢
    exact ⟨F', μ', s, a', q⟩
theorem ew_or {rest : List Expr} {Q : Bool → Mu → Prop} (h : et Γ a δ μ fun c μ' => if c = true then Q true μ' else ew Γ (.BoolOp .Or (b :: rest) pos) δ μ' Q) : ew Γ (.BoolOp .Or (a :: b :: rest) pos) δ μ Q := fun F σ H at_ => by
  refine ww_of (pw_or pt_wt pw_ww) (wt_mono (h F σ H at_) fun c H' ⟨F', μ', s, a', q⟩ => ?_)
  cases c with
  | true =>
    rw [if_pos rfl] at q ⊢
    exact ⟨F', μ', s, a', q⟩
  | false =>
    rw [if_neg Bool.false_ne_true] at q ⊢
    exact ww_mono (q F' σ H' a') fun c H2 z => z.up s
theorem et_ew {Q : Bool → Mu → Prop} (h : ew Γ e δ μ Q) : et Γ e δ μ Q := fun F σ H at_ => wt_of pw_ww.pt (h F σ H at_)
/-- and, or, not as values of bools -/
theorem ed_one {op} (h : ed Γ a δ μ Q) : ed Γ (.BoolOp op [a] pos) δ μ Q := fun F σ H at_ => we_of (pe_one pe_we) (h F σ H at_)
theorem ed_and {rest : List Expr} (h : ed Γ a δ μ fun d μ' => ∃ c, d = .bl c ∧ if c = true then ed Γ (.BoolOp .And (b :: rest) pos) δ μ' Q else Q (.bl false) μ') : ed Γ (.BoolOp .And (a :: b :: rest) pos) δ μ Q := fun F σ H at_ => by
  refine we_of (pe_and pe_we pe_we) (we_mono (h F σ H at_) fun v H' ⟨F', d, μ', s, a', rr, c, e1, q⟩ => ?_)
  subst e1
  rw [Dp] at rr
  refine ⟨c, rr, ?_⟩
  cases c with
  | true =>
    rw [if_pos rfl] at q ⊢
    exact we_mono (q F' σ H' a') fun c H2 z => z.up s
  | false =>
    rw [if_neg Bool.false_ne_true] at q ⊢
    exact ⟨F', _, μ', s, a', by rw [Dp], q⟩
theorem ed_or {rest : List Expr} (h : ed Γ a δ μ fun d μ' => ∃ c, d = .bl c ∧ if c = true then Q (.bl true) μ' else ed Γ (.BoolOp .Or (b :: rest) pos) δ μ' Q) : ed Γ (.BoolOp .Or (a :: b :: rest) pos) δ μ Q := fun F σ H at_ => by
  refine we_of (pe_or pe_we pe_we) (we_mono (h F σ H at_) fun v H' ⟨F', d, μ', s, a', rr, c, e1, q⟩ => ?_)
  subst e1
  rw [Dp] at rr
  refine ⟨c, rr, ?_⟩
  cases c with
  | true =>
    rw [if_pos rfl] at q ⊢
    exact ⟨F', _, μ', s, a', by rw [Dp], q⟩
  | false =>
    rw [if_neg Bool.false_ne_true] at q ⊢
    exact we_mono (q F' σ H' a') fun c H2 z => z.up s
theorem ed_not (h : ed Γ a δ μ fun d μ' => ∃ c, d = .bl c ∧ Q (.bl (!c)) μ') : ed Γ (.UnaryOp .Not a pos) δ μ Q := fun F σ H at_ => by
  refine we_of (pe_not pe_we) (we_mono (h F σ H at_) fun v H' ⟨F', d, μ', s, a', rr, c, e1, q⟩ => ?_)
  subst e1
  rw [Dp] at rr
  exact ⟨c, rr, F', _, μ', s, a', by rw [Dp], q⟩
theorem ed_if {c : Expr} (h : et Γ c δ μ fun k μ' => if k = true then ed Γ a δ μ' Q else ed Γ b δ μ' Q) : ed Γ (.IfExp c a b pos) δ μ Q := fun F σ H at_ => by
  refine we_of (pe_ifExp pt_wt pe_we pe_we) (wt_mono (h F σ H at_) fun k H' ⟨F', μ', s, a', q⟩ => ?_)
  cases k with
  | true =>
    rw [if_pos rfl] at q ⊢
    exact we_mono (q F' σ H' a') fun c H2 z => z.up s
  | false =>
    rw [if_neg Bool.false_ne_true] at q ⊢
    exact we_mono (q F' σ H' a') fun c H2 z => z.up s
/-! ### arguments, displays -/
theorem ea_nil {Q : List D → Mu → Prop} (q : Q [] μ) : ea Γ [] δ μ Q := fun F σ H at_ => wa_of pa_nil ⟨F, [], μ, Same.refl F, at_, Dps.nil, q⟩
theorem ea_cons {es : List Expr} {Q : List D → Mu → Prop} (h : ed Γ e δ μ fun d μ1 => ea Γ es δ μ1 fun ds μ2 => Q (d :: ds) μ2) (hs : starEach (e :: es) Γ.X.env = (false, eval e Γ.X.env) :: starEach es Γ.X.env := by rfl) : ea Γ (e :: es) δ μ Q := fun F σ H at_ => by
  refine wa_of (pa_cons pe_we pa_wa hs) (we_mono (h F σ H at_) fun v H1 ⟨F1, d, μ1, s1, a1, r1, q1⟩ => ?_)
  refine wa_mono (q1 F1 σ H1 a1) fun vs H2 ⟨F2, ds, μ2, s2, a2, r2, q2⟩ => ?_
  exact ⟨F2, d :: ds, μ2, s1.trans s2, a2, Dps.cons (r1.mono s2) r2, q2⟩
theorem ed_tup {es : List Expr} {k} (h : ea Γ es δ μ fun ds μ' => ds.length ≤ 1000 ∧ Q (.tup ds) μ') : ed Γ (.Tuple es k pos) δ μ Q := fun F σ H at_ => by
  refine we_of (pe_tup pa_wa) (wa_mono (h F σ H at_) fun vs H1 ⟨F1, ds, μ1, s1, a1, r1, l, q1⟩ => ⟨?_, fun p hp => ?_⟩)
  · rw [← r1.length]; exact Nat.le_of_lt (small1000 l)
  · refine PostE.up s1 (PostE.new a1 hp ?_ q1)
    rw [Dp]
    exact ⟨p, vs, rfl, .inl (.inl upd_same), r1.mono (same_upd (a1.sx.sub.free hp))⟩
theorem ed_lst {es : List Expr} (h : ea Γ es δ μ fun ds μ' => ds.length ≤ 1000 ∧ Q (.lst ds) μ') : ed Γ (.List es pos) δ μ Q := fun F σ H at_ => by
  refine we_of (pe_lst pa_wa) (wa_mono (h F σ H at_) fun vs H1 ⟨F1, ds, μ1, s1, a1, r1, l, q1⟩ => ⟨?_, fun p hp => ?_⟩)
  · rw [← r1.length]; exact Nat.le_of_lt (small1000 l)
  · refine PostE.up s1 (PostE.new a1 hp ?_ q1)
    rw [Dp]
    exact ⟨p, vs, rfl, upd_same, r1.mono (same_upd (a1.sx.sub.free hp))⟩
/-- an owned list -/
theorem ed_lstO {es : List Expr} (h : ea Γ es δ μ fun ds μ' => ds.length ≤ 1000 ∧ ∀ p, Q (.ref p) ((p, .lst ds) :: μ')) : ed Γ (.List es pos) δ μ Q := fun F σ H at_ => by
  refine we_of (pe_lst pa_wa) (wa_mono (h F σ H at_) fun vs H1 ⟨F1, ds, μ1, s1, a1, r1, l, q1⟩ => ⟨?_, fun p hp => ?_⟩)
  · rw [← r1.length]; exact Nat.le_of_lt (small1000 l)
  · exact PostE.up s1 (PostE.own (c := .lst ds) a1 hp ⟨vs, upd_same, r1⟩ (q1 p))
end
/-! ### statements -/
section
variable {Γ : Ct} {δ : Dl} {μ : Mu} {E : En} {pos : Pos} {e : Expr} {st : Stmt} {rest : List Stmt}
theorem sds_nil (q : E.nx δ μ) : sds Γ [] δ μ E := fun F σ H a => wss_of pss_nil ⟨F, δ, μ, Same.refl F, a, q⟩
theorem sds_cons (h : sd Γ st δ μ { E with nx := fun δ' μ' => sds Γ rest δ' μ' E }) : sds Γ (st :: rest) δ μ E := fun F σ H a => by
  refine wss_of (pss_cons ps_ws pss_wss) (ws_mono (h F σ H a) ⟨fun σ' H' z => ?_, fun _ _ z => z, fun _ _ z => z, fun _ _ z => z⟩)
  obtain ⟨F', δ', μ', s, a', q⟩ := z
  exact wss_mono (q F' σ' H' a') (En.up s)
theorem sd_pass (q : E.nx δ μ) : sd Γ (.Pass pos) δ μ E := fun F σ H a => ws_of ps_pass ⟨F, δ, μ, Same.refl F, a, q⟩
theorem sd_doc {x j pos'} (q : E.nx δ μ) : sd Γ (.Expr (.Constant (.str x) j pos) pos') δ μ E := fun F σ H a => ws_of ps_doc ⟨F, δ, μ, Same.refl F, a, q⟩
theorem sd_expr (h : ed Γ e δ μ fun _ μ' => E.nx δ μ') (hs : swapsWith e none pos.line Γ.X.env = pure false := by rfl) : sd Γ (.Expr e pos) δ μ E := fun F σ H a =>
  ws_of (ps_expr pe_we hs) (we_mono (h F σ H a) fun v H' ⟨F', d, μ', s, a', r, q⟩ => ⟨F', δ, μ', s, a', q⟩)
theorem sd_ret (h : ed Γ e δ μ E.rt) : sd Γ (.Return (some e) pos) δ μ E := fun F σ H a =>
  ws_of (ps_ret pe_we) (we_mono (h F σ H a) fun v H' ⟨F', d, μ', s, a', r, q⟩ => ⟨F', d, μ', s, a'.st, a'.sx, r, q⟩)
theorem sd_retN (q : E.rt .non μ) : sd Γ (.Return none pos) δ μ E := fun F σ H a => ws_of ps_retN ⟨F, .non, μ, Same.refl F, a.st, a.sx, by rw [Dp], q⟩
theorem sd_if {c : Expr} {t f : List Stmt} (h : et Γ c δ μ fun k μ' => if k = true then sds Γ t δ μ' E else sds Γ f δ μ' E) : sd Γ (.If c t f pos) δ μ E := fun F σ H a => by
  refine ws_of (ps_if pt_wt pss_wss pss_wss) (wt_mono (h F σ H a) fun k H' ⟨F', μ', s, a', q⟩ => ?_)
  cases k with
  | true =>
    rw [if_pos rfl] at q ⊢
    exact wss_mono (q F' σ H' a') (En.up s)
  | false =>
    rw [if_neg Bool.false_ne_true] at q ⊢
    exact wss_mono (q F' σ H' a') (En.up s)
theorem gd_name {i : Nat} {x : Str} {d : D} {Q : Dl → Mu → Prop} (hN : Γ.X.N.Nodup) (hi : Γ.X.N[i]? = some x) (q : Q (δ.set i (some d)) μ) (hx : Loc Γ.X.env.scope x := by first | exact .inl rfl | exact .inr rfl)
    (hf : Γ.X.fn x = true ∨ Γ.X.env.scope.names.lookup x = some .local := by first | exact .inl rfl | exact .inr rfl | assumption) : gd Γ (.Name x pos) d δ μ Q := fun F σ H v a r =>
  wg_of (pg_name hN hi hx hf) ⟨F, _, μ, Same.refl F, a.fr_set i r, q⟩
theorem gds_nil {Q : Dl → Mu → Prop} (q : Q δ μ) : gds Γ [] [] δ μ Q := fun F σ H vs a r => wgs_of pgs_nil ⟨r.unnil, F, δ, μ, Same.refl F, a, q⟩
theorem gds_cons {es : List Expr} {d : D} {ds : List D} {Q : Dl → Mu → Prop} (h : gd Γ e d δ μ fun δ' μ' => gds Γ es ds δ' μ' Q) (hs : (assignEach (e :: es) Γ.X.env).map (·.2) = assign e Γ.X.env :: (assignEach es Γ.X.env).map (·.2) := by rfl) :
    gds Γ (e :: es) (d :: ds) δ μ Q := fun F σ H vs a r => by
  obtain ⟨v, ws', rfl, r1, r2⟩ := r.uncons
  refine wgs_of (pgs_cons pg_wg pgs_wgs hs) ⟨v, ws', rfl, wg_mono (h F σ H v a r1) fun σ1 H1 ⟨F1, δ1, μ1, s1, a1, q1⟩ => ?_⟩
  exact wgs_mono (q1 F1 σ1 H1 ws' a1 (r2.mono s1)) fun σ2 H2 z => z.up s1
theorem gd_tup {es : List Expr} {k : Nat} {ds : List D} {n : Nat} {Q : Dl → Mu → Prop} (hc : Γ.X.calm = true) (h : ds.length = n ∧ gds Γ es ds δ μ Q) (hn : (assignEach es Γ.X.env).length = n := by rfl) (hst : (assignEach es Γ.X.env).findIdx? (·.1) = none := by rfl) :
    gd Γ (.Tuple es k pos) (.tup ds) δ μ Q := fun F σ H v a r => by
  rw [Dp] at r
  obtain ⟨p, vs, rfl, hq, r⟩ := r
  exact wg_of (pg_tup hc pgs_wgs hn hst) ⟨p, vs, rfl, Same.sqT a.sx.sub hq, by rw [← r.length]; exact h.1, h.2 F σ H vs a r⟩
theorem sd_asg {tg : Expr} (h : ed Γ e δ μ fun d μ' => gd Γ tg d δ μ' E.nx) (hs : swapsWithSole [tg] e pos.line Γ.X.env = pure false := by rfl) (hw : swappedStores [tg] e Γ.X.env = pure none := by rfl)
    (h1 : (assignEach [tg] Γ.X.env).map (·.2) = [assign tg Γ.X.env] := by rfl) : sd Γ (.Assign [tg] e pos) δ μ E := fun F σ H a =>
  ws_of (ps_asg pe_we pg_wg hs hw h1) (we_mono (h F σ H a) fun v H' ⟨F', d, μ', s, a', r, q⟩ => wg_mono (q F' σ H' v a' r) fun σ2 H2 z => z.up s)
theorem sd_set {i : Nat} {x : Str} {pos' : Pos} (hN : Γ.X.N.Nodup) (hi : Γ.X.N[i]? = some x) (h : ed Γ e δ μ fun d μ' => E.nx (δ.set i (some d)) μ') (hs : swapsWith e (some (.Name x pos')) pos.line Γ.X.env = pure false := by rfl)
    (hx : Loc Γ.X.env.scope x := by first | exact .inl rfl | exact .inr rfl) (hf : Γ.X.fn x = true ∨ Γ.X.env.scope.names.lookup x = some .local := by first | exact .inl rfl | exact .inr rfl | assumption) : sd Γ (.Assign [.Name x pos'] e pos) δ μ E := fun F σ H a =>
  ws_of (ps_set hN hi hx pe_we hs hf) (we_mono (h F σ H a) fun v H' ⟨F', d, μ', s, a', r, q⟩ => ⟨F', _, μ', s, a'.fr_set i r, q⟩)
/-- a cell is let go -/
theorem sds_freeze_lst {p : Addr} {ds : List D} {μ1 μ2 : Mu} {i : Nat} (hi : δ[i]? = some (some (.ref p))) (h : sds Γ rest (δ.set i (some (.lst ds))) (μ1 ++ μ2) E) : sds Γ rest δ (μ1 ++ (p, .lst ds) :: μ2) E := fun F σ H a => by
  obtain ⟨vs, h1, h2⟩ := a.sx.cells (p, .lst ds) (List.mem_append_right _ List.mem_cons_self)
  have b := a.freeze h1
  have sF : Same F (upd F p (.lst vs)) := same_upd (a.sx.off (p, .lst ds) (List.mem_append_right _ List.mem_cons_self))
  obtain ⟨v, e1, r⟩ := b.var hi
  rw [Dp] at r
  subst r
  have hl : i < σ.length := (List.getElem?_eq_some_iff.mp e1).1
  have c := b.fr_set i (v := .ref p) (d := .lst ds) (by rw [Dp]; exact ⟨p, vs, rfl, upd_same, h2.mono sF⟩)
  have e2 : σ.set i (some (.ref p)) = σ := by
    obtain ⟨_, e4⟩ := List.getElem?_eq_some_iff.mp e1
    rw [← e4]; exact List.set_getElem_self _
  rw [e2] at c
  exact wss_mono (h (upd F p (.lst vs)) σ H c) (En.up sF)
end
end PD
/-! PD3: operators, built-ins, methods over data. -/
namespace PD
open PySem PySem.Spec PyProof.Rows L2
section
variable {Γ : Ct} {δ : Dl} {μ : Mu} {Q : D → Mu → Prop} {x y : D}
theorem opd_of {f : Value → Value → Sem Value} {r : R2} (ho : OpR Γ.X f r) (h : ∀ F σ H vx vy, At Γ F δ μ σ H → Dp Γ.X.K F x vx → Dp Γ.X.K F y vy → r vx vy H (PostE Γ F δ σ Q)) : opd Γ f x y δ μ Q :=
  fun F σ H vx vy a r1 r2 pins s σ' v u I q1 q2 => ho pins s σ' H vx vy v u _ I q1 q2 (h F σ H vx vy a r1 r2)
theorem cld_of {f : Value} {xs : List D} {r : List V → Hp → VK → Prop} (ho : CallR Γ.X f r) (h : ∀ F σ H vs, At Γ F δ μ σ H → Dps Γ.X.K F xs vs → r vs H (PostE Γ F δ σ Q)) : cld Γ f xs δ μ Q :=
  fun F σ H vs a r1 pins s σ' us I q1 => ho pins s σ' H vs us _ I q1 (h F σ H vs a r1)
theorem und_of {f : Value → Sem Value} {r : V → Hp → VK → Prop} (ho : UnR Γ.X f r) (h : ∀ F σ H vx, At Γ F δ μ σ H → Dp Γ.X.K F x vx → r vx H (PostE Γ F δ σ Q)) : und Γ f x δ μ Q :=
  fun F σ H vx a r1 pins s σ' v I q1 => ho pins s σ' H vx v _ I q1 (h F σ H vx a r1)
theorem ixd_of {r : R2} (ho : IxR Γ.X r) (h : ∀ F σ H vx vy, At Γ F δ μ σ H → Dp Γ.X.K F x vx → Dp Γ.X.K F y vy → r vx vy H (PostE Γ F δ σ Q)) : ixd Γ x y δ μ Q :=
  fun F σ H vx vy a r1 r2 va sl pins s σ' v u I q1 q2 hs => ho va sl pins s σ' H vx vy v u _ I q1 q2 (h F σ H vx vy a r1 r2) hs
theorem mtd_of {id : String} {xs : List D} {r : V → List V → Hp → VK → Prop} (ho : MtR Γ.X id r) (h : ∀ F σ H vx vs, At Γ F δ μ σ H → Dp Γ.X.K F x vx → Dps Γ.X.K F xs vs → r vx vs H (PostE Γ F δ σ Q)) : mtd Γ id x xs δ μ Q :=
  fun F σ H vx vs a r1 r2 pins s σ' v us I q1 q2 => ho pins s σ' H vx vs v us _ I q1 q2 (h F σ H vx vs a r1 r2)
theorem dpI {K : PySem.W.Frag} {F : Hp} {i : Int} {v : V} (h : Dp K F (.int i) v) : v = .int i := by rw [Dp] at h; exact h
theorem dpB {K : PySem.W.Frag} {F : Hp} {i : Bool} {v : V} (h : Dp K F (.bl i) v) : v = .bl i := by rw [Dp] at h; exact h
theorem dpS {K : PySem.W.Frag} {F : Hp} {i : Str} {v : V} (h : Dp K F (.str i) v) : v = .str i := by rw [Dp] at h; exact h
theorem dpN {K : PySem.W.Frag} {F : Hp} {v : V} (h : Dp K F .non v) : v = .non := by rw [Dp] at h; exact h
theorem dpR {K : PySem.W.Frag} {F : Hp} {i : Addr} {v : V} (h : Dp K F (.ref i) v) : v = .ref i := by rw [Dp] at h; exact h
theorem dpL {K : PySem.W.Frag} {F : Hp} {ds : List D} {v : V} (h : Dp K F (.lst ds) v) : ∃ a vs, v = .ref a ∧ F a = some (.lst vs) ∧ Dps K F ds vs := by rw [Dp] at h; exact h
theorem dpRl {K : PySem.W.Frag} {F : Hp} {ds : List D} {v : V} (h : Dp K F (.rl ds) v) : ∃ a vs, v = .ref a ∧ SqL K F a vs ∧ Dps K F ds vs := by rw [Dp] at h; exact h
theorem dpT {K : PySem.W.Frag} {F : Hp} {ds : List D} {v : V} (h : Dp K F (.tup ds) v) : ∃ a vs, v = .ref a ∧ SqT K F a vs ∧ Dps K F ds vs := by rw [Dp] at h; exact h
theorem dpi {K : PySem.W.Frag} {F : Hp} {i : Int} : Dp K F (.int i) (.int i) := by rw [Dp]
theorem dpb {K : PySem.W.Frag} {F : Hp} {i : Bool} : Dp K F (.bl i) (.bl i) := by rw [Dp]
theorem dps {K : PySem.W.Frag} {F : Hp} {i : Str} : Dp K F (.str i) (.str i) := by rw [Dp]
theorem dpn {K : PySem.W.Frag} {F : Hp} : Dp K F .non .non := by rw [Dp]
theorem dpr {K : PySem.W.Frag} {F : Hp} {a : Addr} : Dp K F (.ref a) (.ref a) := by rw [Dp]
theorem dpl {K : PySem.W.Frag} {F : Hp} {a : Addr} {ds : List D} {vs : List V} (h : F a = some (.lst vs)) (r : Dps K F ds vs) : Dp K F (.lst ds) (.ref a) := by rw [Dp]; exact ⟨a, vs, rfl, h, r⟩
theorem dpt {K : PySem.W.Frag} {F : Hp} {a : Addr} {ds : List D} {vs : List V} (h : SqT K F a vs) (r : Dps K F ds vs) : Dp K F (.tup ds) (.ref a) := by rw [Dp]; exact ⟨a, vs, rfl, h, r⟩
theorem Dps.one {K : PySem.W.Frag} {F : Hp} {d : D} {vs : List V} (h : Dps K F [d] vs) : ∃ v, vs = [v] ∧ Dp K F d v := by
  obtain ⟨v, ws, rfl, h1, h2⟩ := h.uncons
  rw [h2.unnil]; exact ⟨v, rfl, h1⟩
theorem Dps.two {K : PySem.W.Frag} {F : Hp} {d e : D} {vs : List V} (h : Dps K F [d, e] vs) : ∃ v w, vs = [v, w] ∧ Dp K F d v ∧ Dp K F e w := by
  obtain ⟨v, ws, rfl, h1, h2⟩ := h.uncons
  obtain ⟨w, rfl, h3⟩ := h2.one; exact ⟨v, w, rfl, h1, h3⟩
/-! ### ints -/
theorem opd_I0 {f : Value → Value → Sem Value} {g : Int → Int → Int} {i j : Int} (ho : OpR Γ.X f (rI0 fun i j => .int (g i j))) (q : Q (.int (g i j)) μ) : opd Γ f (.int i) (.int j) δ μ Q := opd_of ho fun F σ H vx vy a r1 r2 => by
  rw [dpI r1, dpI r2]; exact ⟨i, j, rfl, rfl, PostE.here a dpi q⟩
theorem opd_I {f : Value → Value → Sem Value} {C : Int → Int → Prop} {g : Int → Int → Int} {i j : Int} (ho : OpR Γ.X f (rI C fun i j => .int (g i j))) (c : C i j) (q : Q (.int (g i j)) μ) : opd Γ f (.int i) (.int j) δ μ Q := opd_of ho fun F σ H vx vy a r1 r2 => by
  rw [dpI r1, dpI r2]; exact ⟨i, j, rfl, rfl, c, PostE.here a dpi q⟩
theorem opd_IB {f : Value → Value → Sem Value} {g : Int → Int → Bool} {i j : Int} (ho : OpR Γ.X f (rI0 fun i j => .bl (g i j))) (q : Q (.bl (g i j)) μ) : opd Γ f (.int i) (.int j) δ μ Q := opd_of ho fun F σ H vx vy a r1 r2 => by
  rw [dpI r1, dpI r2]; exact ⟨i, j, rfl, rfl, PostE.here a dpb q⟩
theorem opd_add {i j : Int} (q : Q (.int (i + j)) μ) : opd Γ (binaryOp .Add) (.int i) (.int j) δ μ Q := opd_I0 (g := fun i j => i + j) op_add q
theorem opd_sub {i j : Int} (q : Q (.int (i - j)) μ) : opd Γ (binaryOp .Sub) (.int i) (.int j) δ μ Q := opd_I0 (g := fun i j => i - j) op_sub q
theorem opd_mul {i j : Int} (c : CMul i j) (q : Q (.int (i * j)) μ) : opd Γ (binaryOp .Mult) (.int i) (.int j) δ μ Q := opd_I (g := fun i j => i * j) op_mul c q
theorem opd_mod {i j : Int} (c : 0 < j) (q : Q (.int (i % j)) μ) : opd Γ (binaryOp .Mod) (.int i) (.int j) δ μ Q := opd_I (g := fun i j => i % j) op_mod c q
theorem opd_fdiv {i j : Int} (c : 0 < j ∧ j < 1073741824) (q : Q (.int (i / j)) μ) : opd Γ (binaryOp .FloorDiv) (.int i) (.int j) δ μ Q := opd_I (g := fun i j => i / j) op_fdiv c q
theorem opd_pow {i j : Int} (c : 0 ≤ j ∧ j ≤ 1000000 ∧ i.natAbs < 2 ^ 64) (q : Q (.int (i ^ j.toNat)) μ) : opd Γ (binaryOp .Pow) (.int i) (.int j) δ μ Q := opd_I (g := fun i j => i ^ j.toNat) op_pow c q
theorem opd_lt {i j : Int} (q : Q (.bl (decide (i < j))) μ) : opd Γ (compareOp .Lt) (.int i) (.int j) δ μ Q := opd_IB (g := fun i j => decide (i < j)) op_lt q
theorem opd_le {i j : Int} (q : Q (.bl (decide (i ≤ j))) μ) : opd Γ (compareOp .LtE) (.int i) (.int j) δ μ Q := opd_IB (g := fun i j => decide (i ≤ j)) op_le q
theorem opd_gt {i j : Int} (q : Q (.bl (decide (j < i))) μ) : opd Γ (compareOp .Gt) (.int i) (.int j) δ μ Q := opd_IB (g := fun i j => decide (j < i)) op_gt q
theorem opd_ge {i j : Int} (q : Q (.bl (decide (j ≤ i))) μ) : opd Γ (compareOp .GtE) (.int i) (.int j) δ μ Q := opd_IB (g := fun i j => decide (j ≤ i)) op_ge q
theorem und_neg {i : Int} (q : Q (.int (-i)) μ) : und Γ (unaryOp .USub) (.int i) δ μ Q := und_of un_neg fun F σ H vx a r1 => by
  rw [dpI r1]; exact ⟨i, rfl, PostE.here a dpi q⟩
/-! ### == of scalars -/
theorem opd_eqI {i j : Int} (q : Q (.bl (decide (i = j))) μ) : opd Γ (compareOp .Eq) (.int i) (.int j) δ μ Q := opd_of op_eq fun F σ H vx vy a r1 r2 => by
  rw [dpI r1, dpI r2]
  refine ⟨rfl, PostE.here a (d := .bl _) dpb ?_⟩
  rw [dec_int]
  have e : (i == j) = decide (i = j) := rfl
  rw [e]; exact q
theorem opd_neI {i j : Int} (q : Q (.bl (!decide (i = j))) μ) : opd Γ (compareOp .NotEq) (.int i) (.int j) δ μ Q := opd_of op_ne fun F σ H vx vy a r1 r2 => by
  rw [dpI r1, dpI r2]
  refine ⟨rfl, PostE.here a (d := .bl _) dpb ?_⟩
  rw [dec_int]
  have e : (i == j) = decide (i = j) := rfl
  rw [e]; exact q
theorem opd_eqS {i j : Str} (q : Q (.bl (decide (i = j))) μ) : opd Γ (compareOp .Eq) (.str i) (.str j) δ μ Q := opd_of op_eq fun F σ H vx vy a r1 r2 => by
  rw [dpS r1, dpS r2]
  refine ⟨rfl, PostE.here a (d := .bl _) dpb ?_⟩
  have e : decide (V.str i = V.str j) = decide (i = j) := by
    by_cases h : i = j
    · subst h; simp
    · rw [decide_eq_false h, decide_eq_false fun z => h (V.str.inj z)]
  rw [e]; exact q
theorem opd_neS {i j : Str} (q : Q (.bl (!decide (i = j))) μ) : opd Γ (compareOp .NotEq) (.str i) (.str j) δ μ Q := opd_of op_ne fun F σ H vx vy a r1 r2 => by
  rw [dpS r1, dpS r2]
  refine ⟨rfl, PostE.here a (d := .bl _) dpb ?_⟩
  have e : decide (V.str i = V.str j) = decide (i = j) := by
    by_cases h : i = j
    · subst h; simp
    · rw [decide_eq_false h, decide_eq_false fun z => h (V.str.inj z)]
  rw [e]; exact q
/-! ### == of data -/
mutual
def D.py : D → PyData
  | .non => .none
  | .bl b => .bool b
  | .int i => .int i
  | .str x => .str x
  | .lst ds => .list (D.pys ds)
  | .rl ds => .list (D.pys ds)
  | .tup ds => .tuple (D.pys ds)
  | .ty _ => .dict []
  | .ref _ => .dict []
  | .obj _ _ _ => .dict []
  | .dK _ _ => .dict []
  | .slc _ _ _ => .dict []
  | .exv _ _ _ => .dict []
def D.pys : List D → List PyData
  | [] => []
  | d :: ds => d.py :: D.pys ds
end
mutual
/-- what may be compared as data: texts in order -/
def D.ok : D → Bool
  | .non => true
  | .bl b => true
  | .int i => true
  | .str x => PyData.canLay0 (.str x)
  | .lst ds => D.oks ds
  | .rl ds => D.oks ds
  | .tup ds => D.oks ds
  | .ty _ => false
  | .ref _ => false
  | .obj _ _ _ => false
  | .dK _ _ => false
  | .slc _ _ _ => false
  | .exv _ _ _ => false
def D.oks : List D → Bool
  | [] => true
  | d :: ds => d.ok && D.oks ds
end
mutual
theorem D.ok_lay : ∀ {d : D}, d.ok = true → d.py.canLay0 = true
  | .non, _ => by rw [D.py, PyData.canLay0]
  | .bl _, _ => by rw [D.py, PyData.canLay0]
  | .int _, _ => by rw [D.py, PyData.canLay0]
  | .str _, h => by rw [D.ok] at h; rw [D.py]; exact h
  | .lst ds, h => by rw [D.ok] at h; rw [D.py, PyData.canLay0]; exact D.oks_lay h
  | .rl ds, h => by rw [D.ok] at h; rw [D.py, PyData.canLay0]; exact D.oks_lay h
  | .tup ds, h => by rw [D.ok] at h; rw [D.py, PyData.canLay0]; exact D.oks_lay h
  | .ty _, h => by rw [D.ok] at h; cases h
  | .ref _, h => by rw [D.ok] at h; cases h
  | .obj _ _ _, h => by rw [D.ok] at h; cases h
  | .dK _ _, h => by rw [D.ok] at h; cases h
  | .slc _ _ _, h => by rw [D.ok] at h; cases h
  | .exv _ _ _, h => by rw [D.ok] at h; cases h
theorem D.oks_lay : ∀ {ds : List D}, D.oks ds = true → PyData.canLayAll0 (D.pys ds) = true
  | [], _ => by rw [D.pys, PyData.canLayAll0]
  | d :: ds, h => by
    rw [D.oks] at h
    obtain ⟨h1, h2⟩ := Bool.and_eq_true_iff.mp h
    rw [D.pys, PyData.canLayAll0, D.ok_lay h1, D.oks_lay h2]; rfl
end
mutual
theorem D.ok_dp {K : PySem.W.Frag} {F H : Hp} (s : Same F H) : ∀ {d : D} {v : V}, d.ok = true → Dp K F d v → L2.Dp K H v d.py
  | .non, v, _, r => by rw [dpN r, D.py]; exact .non
  | .bl _, v, _, r => by rw [dpB r, D.py]; exact .bl _
  | .int _, v, _, r => by rw [dpI r, D.py]; exact .int _
  | .str _, v, h, r => by rw [dpS r, D.py]; exact .str _
  | .lst ds, v, h, r => by
    obtain ⟨a, vs, rfl, h1, h2⟩ := dpL r
    rw [D.ok] at h; rw [D.py]
    exact .lst (.inl (.inl (s _ _ h1))) (D.oks_dp s h h2)
  | .rl ds, v, h, r => by
    obtain ⟨a, vs, rfl, h1, h2⟩ := dpRl r
    rw [D.ok] at h; rw [D.py]
    exact .lst (s.seq h1) (D.oks_dp s h h2)
  | .tup ds, v, h, r => by
    obtain ⟨a, vs, rfl, h1, h2⟩ := dpT r
    rw [D.ok] at h; rw [D.py]
    exact .tup (Same.sqT s h1) (D.oks_dp s h h2)
  | .ty _, _, h, _ => by rw [D.ok] at h; cases h
  | .ref _, _, h, _ => by rw [D.ok] at h; cases h
  | .obj _ _ _, _, h, _ => by rw [D.ok] at h; cases h
  | .dK _ _, _, h, _ => by rw [D.ok] at h; cases h
  | .slc _ _ _, _, h, _ => by rw [D.ok] at h; cases h
  | .exv _ _ _, _, h, _ => by rw [D.ok] at h; cases h
theorem D.oks_dp {K : PySem.W.Frag} {F H : Hp} (s : Same F H) : ∀ {ds : List D} {vs : List V}, D.oks ds = true → Dps K F ds vs → L2.DpAll K H vs (D.pys ds)
  | [], vs, _, r => by rw [r.unnil, D.pys]; exact .nil
  | d :: ds, vs, h, r => by
    obtain ⟨v, ws, rfl, r1, r2⟩ := r.uncons
    rw [D.oks] at h
    obtain ⟨h1, h2⟩ := Bool.and_eq_true_iff.mp h
    rw [D.pys]
    exact .cons (D.ok_dp s h1 r1) (D.oks_dp s h2 r2)
end
def eqD (x y : D) : Bool := PyData.eqv x.py y.py
/-! ### is None -/
def D.isN : D → Bool
  | .non => true
  | _ => false
theorem dp_isN {K : PySem.W.Frag} {F : Hp} {d : D} {v : V} (r : Dp K F d v) : decide (v = .non) = d.isN := by
  cases d with
  | non => rw [dpN r]; rfl
  | bl _ => rw [dpB r]; rfl
  | int _ => rw [dpI r]; rfl
  | str _ => rw [dpS r]; rfl
  | ref _ => rw [dpR r]; rfl
  | ty n => rw [Dp] at r; rw [r]; rfl
  | lst _ => obtain ⟨a, vs, rfl, _⟩ := dpL r; rfl
  | rl _ => obtain ⟨a, vs, rfl, _⟩ := dpRl r; rfl
  | tup _ => obtain ⟨a, vs, rfl, _⟩ := dpT r; rfl
  | obj _ _ _ => rw [Dp] at r; obtain ⟨a, dx, gs, rfl, _⟩ := r; rfl
  | dK _ _ => rw [Dp] at r; obtain ⟨a, dx, rfl, _⟩ := r; rfl
  | slc _ _ _ => rw [Dp] at r; obtain ⟨a, rfl, _⟩ := r; rfl
  | exv _ _ _ => rw [Dp] at r; obtain ⟨a, o, gs, rfl, _⟩ := r; rfl
theorem opd_isN (q : Q (.bl x.isN) μ) : opd Γ (compareOp .Is) x .non δ μ Q := opd_of op_isN fun F σ H vx vy a r1 r2 => by
  rw [dpN r2]; refine ⟨rfl, PostE.here a (d := .bl _) dpb ?_⟩; rw [dp_isN r1]; exact q
theorem opd_notN (q : Q (.bl (!x.isN)) μ) : opd Γ (compareOp .IsNot) x .non δ μ Q := opd_of op_notN fun F σ H vx vy a r1 r2 => by
  rw [dpN r2]; refine ⟨rfl, PostE.here a (d := .bl _) dpb ?_⟩; rw [dp_isN r1]; exact q
/-! ### texts, lists, tuples put together -/
theorem opd_addS {i j : Str} (hl : i.length + j.length ≤ sizeLine) (q : Q (.str (i ++ j)) μ) : opd Γ (binaryOp .Add) (.str i) (.str j) δ μ Q := opd_of op_add_str fun F σ H vx vy a r1 r2 => by
  rw [dpS r1, dpS r2]; exact ⟨i, j, rfl, rfl, hl, PostE.here a dps q⟩
theorem opd_cat {xs ys : List D} (hl : xs.length + ys.length ≤ sizeLine) (q : Q (.lst (xs ++ ys)) μ) : opd Γ (binaryOp .Add) (.lst xs) (.lst ys) δ μ Q := opd_of op_cat fun F σ H vx vy a r1 r2 => by
  obtain ⟨p1, vs, rfl, h1, h2⟩ := dpL r1
  obtain ⟨p2, ws, rfl, h3, h4⟩ := dpL r2
  refine ⟨p1, p2, vs, ws, rfl, rfl, a.sx.sub _ _ h1, a.sx.sub _ _ h3, by rw [← h2.length, ← h4.length]; exact hl, fun p hp => ?_⟩
  have sF := same_upd (o := HO.lst (vs ++ ws)) (a.sx.sub.free hp)
  exact PostE.new a hp (dpl upd_same ((h2.append h4).mono sF)) q
/-! ### subscripts -/
theorem ixd_lst {xs : List D} {i : Int} {d : D} (h : atI xs i = some d) (q : Q d μ) : ixd Γ (.lst xs) (.int i) δ μ Q := ixd_of ix_list fun F σ H vx vy a r1 r2 => by
  obtain ⟨p1, vs, rfl, h1, h2⟩ := dpL r1
  rw [dpI r2]
  obtain ⟨j, e1, e2⟩ : ∃ j, ixN xs.length i = some j ∧ xs[j]? = some d := by
    unfold atI at h
    cases e : ixN xs.length i with
    | none => rw [e] at h; cases h
    | some j => rw [e] at h; exact ⟨j, rfl, h⟩
  obtain ⟨v, e3, r⟩ := h2.get e2
  exact ⟨p1, vs, i, v, rfl, rfl, .inl (.inl (a.sx.sub _ _ h1)), by unfold atI; rw [← h2.length, e1]; exact e3, PostE.here a r q⟩
theorem ixd_tup {xs : List D} {i : Int} {d : D} (h : atI xs i = some d) (q : Q d μ) : ixd Γ (.tup xs) (.int i) δ μ Q := ixd_of ix_tup fun F σ H vx vy a r1 r2 => by
  obtain ⟨p1, vs, rfl, h1, h2⟩ := dpT r1
  rw [dpI r2]
  obtain ⟨j, e1, e2⟩ : ∃ j, ixN xs.length i = some j ∧ xs[j]? = some d := by
    unfold atI at h
    cases e : ixN xs.length i with
    | none => rw [e] at h; cases h
    | some j => rw [e] at h; exact ⟨j, rfl, h⟩
  obtain ⟨v, e3, r⟩ := h2.get e2
  exact ⟨p1, vs, i, v, rfl, rfl, Same.sqT a.sx.sub h1, by unfold atI; rw [← h2.length, e1]; exact e3, PostE.here a r q⟩
/-- an owned list -/
theorem ixd_own {p : Addr} {xs : List D} {i : Int} {d : D} (hm : (p, Cell.lst xs) ∈ μ) (h : atI xs i = some d) (q : Q d μ) : ixd Γ (.ref p) (.int i) δ μ Q := ixd_of ix_list fun F σ H vx vy a r1 r2 => by
  rw [dpR r1, dpI r2]
  obtain ⟨vs, h1, h2⟩ := a.sx.cells _ hm
  obtain ⟨j, e1, e2⟩ : ∃ j, ixN xs.length i = some j ∧ xs[j]? = some d := by
    unfold atI at h
    cases e : ixN xs.length i with
    | none => rw [e] at h; cases h
    | some j => rw [e] at h; exact ⟨j, rfl, h⟩
  obtain ⟨v, e3, r⟩ := h2.get e2
  exact ⟨p, vs, i, v, rfl, rfl, .inl (.inl h1), by unfold atI; rw [← h2.length, e1]; exact e3, PostE.here a r q⟩
theorem sld_lst {xs : List D} {lo hi : Option Int} (q : Q (.lst ((xs.drop (HT.sIx xs.length 0 lo)).take (HT.sIx xs.length xs.length hi - HT.sIx xs.length 0 lo))) μ) : sld Γ (rSlL Γ.X.K) (.lst xs) lo hi δ μ Q := fun F σ H vx a r1 => by
  obtain ⟨p1, vs, rfl, h1, h2⟩ := dpL r1
  refine ⟨p1, vs, rfl, .inl (.inl (a.sx.sub _ _ h1)), fun p hp => ?_⟩
  have sF := same_upd (o := HO.lst (cutV vs lo hi)) (a.sx.sub.free hp)
  refine PostE.new a hp (dpl upd_same (Dps.mono sF ?_)) q
  unfold cutV
  rw [← h2.length]
  exact (h2.drop _).take _
theorem sld_rl {xs : List D} {lo hi : Option Int} (q : Q (.lst ((xs.drop (HT.sIx xs.length 0 lo)).take (HT.sIx xs.length xs.length hi - HT.sIx xs.length 0 lo))) μ) : sld Γ (rSlL Γ.X.K) (.rl xs) lo hi δ μ Q := fun F σ H vx a r1 => by
  obtain ⟨p1, vs, rfl, h1, h2⟩ := dpRl r1
  refine ⟨p1, vs, rfl, a.sx.sub.seq h1, fun p hp => ?_⟩
  have sF := same_upd (o := HO.lst (cutV vs lo hi)) (a.sx.sub.free hp)
  refine PostE.new a hp (dpl upd_same (Dps.mono sF ?_)) q
  unfold cutV
  rw [← h2.length]
  exact (h2.drop _).take _
theorem rSlL_mono (K : PySem.W.Frag) : ∀ x l u H Q Q', (∀ v H', Q v H' → Q' v H') → rSlL K x l u H Q → rSlL K x l u H Q' := fun x l u H Q Q' k h => by
  obtain ⟨a, xs, e, h1, h2⟩ := h
  exact ⟨a, xs, e, h1, fun p hp => k _ _ (h2 p hp)⟩
theorem sld_str {z : Str} {lo hi : Option Int} (hz : z.length ≤ sizeLine) (q : Q (.str (cutS z lo hi)) μ) : sld Γ rSlS (.str z) lo hi δ μ Q := fun F σ H vx a r1 => by
  rw [dpS r1]
  exact ⟨z, rfl, hz, PostE.here a dps q⟩
theorem rSlS_mono : ∀ x l u H Q Q', (∀ v H', Q v H' → Q' v H') → rSlS x l u H Q → rSlS x l u H Q' := fun x l u H Q Q' k h => by
  obtain ⟨a, e, h1, h2⟩ := h
  exact ⟨a, e, h1, k _ _ h2⟩
/-! ### built-ins -/
theorem cld_len_lst {xs : List D} (q : Q (.int xs.length) μ) : cld Γ (.builtin "len") [.lst xs] δ μ Q := cld_of call_len_seq fun F σ H vs a r0 => by
  obtain ⟨v, rfl, r⟩ := r0.one
  obtain ⟨p1, vs, rfl, h1, h2⟩ := dpL r
  refine ⟨p1, vs, rfl, .inl (.inl (.inl (a.sx.sub _ _ h1))), PostE.here a (d := .int _) dpi ?_⟩
  rw [← h2.length]; exact q
theorem cld_len_rl {xs : List D} (q : Q (.int xs.length) μ) : cld Γ (.builtin "len") [.rl xs] δ μ Q := cld_of call_len_seq fun F σ H vs a r0 => by
  obtain ⟨v, rfl, r⟩ := r0.one
  obtain ⟨p1, vs, rfl, h1, h2⟩ := dpRl r
  refine ⟨p1, vs, rfl, .inl (a.sx.sub.seq h1), PostE.here a (d := .int _) dpi ?_⟩
  rw [← h2.length]; exact q
theorem cld_len_tup {xs : List D} (q : Q (.int xs.length) μ) : cld Γ (.builtin "len") [.tup xs] δ μ Q := cld_of call_len_seq fun F σ H vs a r0 => by
  obtain ⟨v, rfl, r⟩ := r0.one
  obtain ⟨p1, vs, rfl, h1, h2⟩ := dpT r
  refine ⟨p1, vs, rfl, .inr (Same.sqT a.sx.sub h1), PostE.here a (d := .int _) dpi ?_⟩
  rw [← h2.length]; exact q
theorem cld_len_own {p : Addr} {xs : List D} (hm : (p, Cell.lst xs) ∈ μ) (q : Q (.int xs.length) μ) : cld Γ (.builtin "len") [.ref p] δ μ Q := cld_of call_len_seq fun F σ H vs a r0 => by
  obtain ⟨v, rfl, r⟩ := r0.one
  rw [dpR r]
  obtain ⟨vs, h1, h2⟩ := a.sx.cells _ hm
  refine ⟨p, vs, rfl, .inl (.inl (.inl h1)), PostE.here a (d := .int _) dpi ?_⟩
  rw [← h2.length]; exact q
theorem cld_len_str {z : Str} (hz : z.length ≤ sizeLine) (q : Q (.int z.length) μ) : cld Γ (.builtin "len") [.str z] δ μ Q := cld_of call_len_str fun F σ H vs a r0 => by
  obtain ⟨v, rfl, r⟩ := r0.one
  rw [dpS r]
  exact ⟨z, rfl, hz, PostE.here a dpi q⟩
theorem cld_int {i : Int} (q : Q (.int i) μ) : cld Γ (.type "int") [.int i] δ μ Q := cld_of call_int1 fun F σ H vs a r0 => by
  obtain ⟨v, rfl, r⟩ := r0.one
  rw [dpI r]; exact .inl ⟨i, rfl, PostE.here a dpi q⟩
theorem cld_abs {i : Int} (q : Q (.int (if i < 0 then -i else i)) μ) : cld Γ (.builtin "abs") [.int i] δ μ Q := cld_of call_abs fun F σ H vs a r0 => by
  obtain ⟨v, rfl, r⟩ := r0.one
  rw [dpI r]; exact ⟨i, rfl, PostE.here a dpi q⟩
theorem cld_tuple_lst {xs : List D} (q : Q (.tup xs) μ) : cld Γ (.type "tuple") [.lst xs] δ μ Q := cld_of call_tuple_of fun F σ H vs a r0 => by
  obtain ⟨v, rfl, r⟩ := r0.one
  obtain ⟨p1, vs, rfl, h1, h2⟩ := dpL r
  refine ⟨p1, vs, rfl, .inl ⟨.inl (.inl (a.sx.sub _ _ h1)), fun p hp => ?_⟩⟩
  exact PostE.new a hp (dpt (.inl (.inl upd_same)) (h2.mono (same_upd (a.sx.sub.free hp)))) q
theorem cld_tuple_tup {xs : List D} (q : Q (.tup xs) μ) : cld Γ (.type "tuple") [.tup xs] δ μ Q := cld_of call_tuple_of fun F σ H vs a r0 => by
  obtain ⟨v, rfl, r⟩ := r0.one
  obtain ⟨p1, vs, rfl, h1, h2⟩ := dpT r
  exact ⟨p1, vs, rfl, .inr ⟨Same.sqT a.sx.sub h1, PostE.here a (dpt h1 h2) q⟩⟩
theorem cld_tuple_own {p0 : Addr} {xs : List D} (hm : (p0, Cell.lst xs) ∈ μ) (q : Q (.tup xs) μ) : cld Γ (.type "tuple") [.ref p0] δ μ Q := cld_of call_tuple_of fun F σ H vs a r0 => by
  obtain ⟨v, rfl, r⟩ := r0.one
  rw [dpR r]
  obtain ⟨vs, h1, h2⟩ := a.sx.cells _ hm
  refine ⟨p0, vs, rfl, .inl ⟨.inl (.inl h1), fun p hp => ?_⟩⟩
  exact PostE.new a hp (dpt (.inl (.inl upd_same)) (h2.mono (same_upd (a.sx.sub.free hp)))) q
theorem cld_list_tup {xs : List D} (q : Q (.lst xs) μ) : cld Γ (.type "list") [.tup xs] δ μ Q := cld_of call_list_of fun F σ H vs a r0 => by
  obtain ⟨v, rfl, r⟩ := r0.one
  obtain ⟨p1, vs, rfl, h1, h2⟩ := dpT r
  refine ⟨p1, vs, rfl, .inr (Same.sqT a.sx.sub h1), fun p hp => ?_⟩
  exact PostE.new a hp (dpl upd_same (h2.mono (same_upd (a.sx.sub.free hp)))) q
theorem cld_list_lst {xs : List D} (q : Q (.lst xs) μ) : cld Γ (.type "list") [.lst xs] δ μ Q := cld_of call_list_of fun F σ H vs a r0 => by
  obtain ⟨v, rfl, r⟩ := r0.one
  obtain ⟨p1, vs, rfl, h1, h2⟩ := dpL r
  refine ⟨p1, vs, rfl, .inl (.inl (.inl (a.sx.sub _ _ h1))), fun p hp => ?_⟩
  exact PostE.new a hp (dpl upd_same (h2.mono (same_upd (a.sx.sub.free hp)))) q
theorem cld_all (hc : Γ.X.calm = true) {bs : List Bool} (q : Q (.bl (bs.all id)) μ) : cld Γ (.builtin "all") [.lst (bs.map .bl)] δ μ Q := cld_of (cr_all hc) fun F σ H vs a r0 => by
  obtain ⟨v, rfl, r⟩ := r0.one
  obtain ⟨p1, vs, rfl, h1, h2⟩ := dpL r
  rw [Dps.bls h2] at h1
  exact ⟨p1, bs, rfl, .inl (.inl (a.sx.sub _ _ h1)), PostE.here a dpb q⟩
theorem cld_any (hc : Γ.X.calm = true) {bs : List Bool} (q : Q (.bl (bs.any id)) μ) : cld Γ (.builtin "any") [.lst (bs.map .bl)] δ μ Q := cld_of (cr_any hc) fun F σ H vs a r0 => by
  obtain ⟨v, rfl, r⟩ := r0.one
  obtain ⟨p1, vs, rfl, h1, h2⟩ := dpL r
  rw [Dps.bls h2] at h1
  exact ⟨p1, bs, rfl, .inl (.inl (a.sx.sub _ _ h1)), PostE.here a dpb q⟩
end
/-! ### methods -/
theorem tyV_of {Γ : Ct} {F H : Hp} {δ : Dl} {μ : Mu} {σ : L2.St} {T : String} {x : D} {v : V} (a : At Γ F δ μ σ H) (r : Dp Γ.X.K F x v) (h : tyD T x μ) : tyV Γ.X.K T v H := by
  cases x with
  | str z => rw [dpS r]; exact h
  | lst ds =>
    obtain ⟨p, vs, rfl, h1, _⟩ := dpL r
    exact .inl ⟨h, vs, .inl (.inl (a.sx.sub _ _ h1))⟩
  | dK ks ds =>
    rw [Dp] at r
    obtain ⟨p, kvs, rfl, h1, _⟩ := r
    exact .inr (.inr (.inl ⟨h, .inl ⟨kvs, a.sx.sub _ _ h1⟩⟩))
  | ref p =>
    rw [dpR r]
    rcases h with ⟨ds, hm, e⟩ | ⟨ks, ds, hm, e⟩ | ⟨ks, ds, hm, e⟩ | ⟨S, n, hm, e⟩
    · obtain ⟨vs, h1, _⟩ := a.sx.cells _ hm
      exact .inl ⟨e, vs, .inl (.inl h1)⟩
    · obtain ⟨vs, h1, _⟩ := a.sx.cells _ hm
      exact .inr (.inr (.inl ⟨e, .inl ⟨vs, h1⟩⟩))
    · obtain ⟨vs, h1, _⟩ := a.sx.cells _ hm
      exact .inr (.inr (.inl ⟨e, .inr ⟨vs, h1⟩⟩))
    · exact .inr (.inr (.inr ⟨e, S, n, a.sx.cells _ hm⟩))
  | _ => exact h.elim
section
variable {Γ : Ct} {δ : Dl} {μ : Mu} {Q : D → Mu → Prop} {x y : D} {o e : Expr} {es : List Expr} {name : Str} {apos cpos : Pos} {T id : String}
theorem ed_bm (pa : PlainAttrs T) (slot : Slot T name id) (hty : typeOf (.builtin id) = pure (.type "method_descriptor")) (h : ed Γ o δ μ fun x μ1 => tyD T x μ1 ∧ ea Γ (e :: es) δ μ1 fun xs μ2 => mtd Γ id x xs δ μ2 Q)
    (hbase : attributeBase o name Γ.X.env (eval o Γ.X.env) = eval o Γ.X.env := by with_unfolding_all rfl)
    (hfew : ((backTo cpos (starEach (e :: es) Γ.X.env)).all (fun x => !x.1) && (backToKw cpos (keywordEach [] Γ.X.env)).all (fun x => x.1.isSome)
      && decide ((e :: es).length + ([] : List Keyword).length + (if ([] : List Keyword).isEmpty then 0 else 1) < 30)) = true := by with_unfolding_all rfl)
    (hline : (apos.endLine == cpos.line) = true := by with_unfolding_all rfl) (hs : starEach (e :: es) Γ.X.env = (false, eval e Γ.X.env) :: starEach es Γ.X.env := by with_unfolding_all rfl) (hplain : (backTo cpos (starEach es Γ.X.env)).any (·.1) = false := by with_unfolding_all rfl) :
    ed Γ (.Call (.Attribute o name apos) (e :: es) [] cpos) δ μ Q := fun F σ H at_ =>
  we_of (pe_bm pa slot hty rmf_ok pe_we pa_wa hbase hfew hline hs hplain) (we_mono (h F σ H at_) fun v H1 ⟨F1, d1, μ1, s1, h1, r1, ty, q1⟩ => ⟨tyV_of h1 r1 ty,
    wa_mono (q1 F1 σ H1 h1) fun vs H2 ⟨F2, ds, μ2, s2, h2, r2, q2⟩ => rmf_mono (q2 F2 σ H2 v vs h2 (r1.mono s2) r2) fun v H' z => PostE.up (s1.trans s2) z⟩)
theorem ed_bm0 (pa : PlainAttrs T) (slot : Slot T name id) (hty : typeOf (.builtin id) = pure (.type "method_descriptor")) (h : ed Γ o δ μ fun x μ1 => tyD T x μ1 ∧ mtd Γ id x [] δ μ1 Q)
    (hbase : attributeBase o name Γ.X.env (eval o Γ.X.env) = eval o Γ.X.env := by with_unfolding_all rfl) (hline : (apos.endLine == cpos.line) = true := by with_unfolding_all rfl) :
    ed Γ (.Call (.Attribute o name apos) [] [] cpos) δ μ Q := fun F σ H at_ =>
  we_of (pe_bm0 pa slot hty rmf_ok pe_we hbase hline) (we_mono (h F σ H at_) fun v H1 ⟨F1, d1, μ1, s1, h1, r1, ty, q1⟩ => ⟨tyV_of h1 r1 ty, rmf_mono (q1 F1 σ H1 v [] h1 r1 Dps.nil) fun v H' z => PostE.up s1 z⟩)
theorem mem_mid {α : Type} {a : α} {l1 l2 : List α} : a ∈ l1 ++ a :: l2 := List.mem_append_right _ List.mem_cons_self
/-- xs.append(d), xs owned -/
theorem mtd_append {p : Addr} {xs : List D} {d : D} {μ1 μ2 : Mu} (hl : xs.length < sizeLine) (q : Q .non (μ1 ++ (p, .lst (xs ++ [d])) :: μ2)) : mtd Γ "list.append" (.ref p) [d] δ (μ1 ++ (p, .lst xs) :: μ2) Q := mtd_of mt_append fun F σ H vx vs a r1 r2 => by
  rw [dpR r1]
  obtain ⟨v, rfl, r3⟩ := r2.one
  obtain ⟨ws, h1, h2⟩ := a.sx.cells (p, .lst xs) mem_mid
  exact ⟨p, ws, v, rfl, rfl, h1, by rw [← h2.length]; exact hl, F, .non, _, Same.refl F, a.put (c' := .lst (xs ++ [d])) ⟨_, upd_same, h2.append (Dps.cons r3 Dps.nil)⟩, dpn, q⟩
/-- xs.extend(ys), xs owned, ys a list -/
theorem mtd_extend {p : Addr} {xs ys : List D} {μ1 μ2 : Mu} (hl : xs.length + ys.length ≤ sizeLine) (q : Q .non (μ1 ++ (p, .lst (xs ++ ys)) :: μ2)) : mtd Γ "list.extend" (.ref p) [.lst ys] δ (μ1 ++ (p, .lst xs) :: μ2) Q := mtd_of mt_extend fun F σ H vx vs a r1 r2 => by
  rw [dpR r1]
  obtain ⟨v, rfl, r3⟩ := r2.one
  obtain ⟨b, zs, rfl, h3, h4⟩ := dpL r3
  obtain ⟨ws, h1, h2⟩ := a.sx.cells (p, .lst xs) mem_mid
  exact ⟨p, b, ws, zs, rfl, rfl, h1, a.sx.sub _ _ h3, by rw [← h2.length, ← h4.length]; exact hl, F, .non, _, Same.refl F, a.put (c' := .lst (xs ++ ys)) ⟨_, upd_same, h2.append h4⟩, dpn, q⟩
/-- xs.pop(), xs owned -/
theorem mtd_pop {p : Addr} {xs : List D} {d : D} {μ1 μ2 : Mu} (hd : xs[xs.length - 1]? = some d) (q : Q d (μ1 ++ (p, .lst xs.dropLast) :: μ2)) : mtd Γ "list.pop" (.ref p) [] δ (μ1 ++ (p, .lst xs) :: μ2) Q := mtd_of mt_pop fun F σ H vx vs a r1 r2 => by
  rw [dpR r1, r2.unnil]
  obtain ⟨ws, h1, h2⟩ := a.sx.cells (p, .lst xs) mem_mid
  obtain ⟨v, e, r⟩ := h2.get hd
  rw [h2.length] at e
  exact ⟨p, ws, v, rfl, rfl, h1, e, F, d, _, Same.refl F, a.put (c' := .lst xs.dropLast) ⟨_, upd_same, h2.dropLast⟩, r, q⟩
/-- sep.join(xs) -/
theorem mtd_join {z : Str} {ys : List Str} (hl : (ys.map (·.length)).sum + ys.length * z.length ≤ 16777216) (q : Q (.str (Txt.join z ys)) μ) :
    mtd Γ "str.join" (.str z) [.lst (ys.map .str)] δ μ Q := mtd_of mt_join fun F σ H vx vs a r1 r2 => by
  rw [dpS r1]
  obtain ⟨v, rfl, r3⟩ := r2.one
  obtain ⟨b, zs, rfl, h3, h4⟩ := dpL r3
  rw [Dps.strs h4] at h3
  exact ⟨z, b, ys, rfl, rfl, .inl (.inl (.inl (a.sx.sub _ _ h3))), hl, PostE.here a dps q⟩
/-! ### xs[i] = d, xs owned -/
theorem gd_setL {o i : Expr} {pos : Pos} {v : D} {Q : Dl → Mu → Prop} (h : ed Γ o δ μ fun x μ1 => ed Γ i δ μ1 fun y μ2 => ∃ p k j xs μa μb, x = .ref p ∧ y = .int k ∧ μ2 = μa ++ (p, .lst xs) :: μb ∧ ixN xs.length k = some j ∧ Q δ (μa ++ (p, .lst (xs.set j v)) :: μb))
    (ha : ∀ v, assign (.Subscript o i pos) Γ.X.env v = (do
      let ov ← holding [v] (eval o Γ.X.env)
      let iv ← holding [v, ov] (eval i Γ.X.env)
      standAt pos
      holding [v, ov, iv] (setItem ov iv v)
      release [v, ov, iv] []) := by intro _; rfl) : gd Γ (.Subscript o i pos) v δ μ Q := fun F σ H vv at_ rv => by
  refine wg_of (pg_sub pe_we pe_we set_list ha) (we_mono (h F σ H at_) fun x H1 ⟨F1, d1, μ1, s1, h1, r1, q1⟩ => we_mono (q1 F1 σ H1 h1) fun y H2 ⟨F2, d2, μ2, s2, h2, r2, p, k, j, xs, μa, μb, e1, e2, e3, e4, q2⟩ => ?_)
  subst e1 e2 e3
  rw [dpR r1, dpI r2]
  obtain ⟨ws, g1, g2⟩ := h2.sx.cells (p, .lst xs) mem_mid
  exact ⟨p, ws, k, j, rfl, rfl, g1, by rw [← g2.length]; exact e4, F2, δ, _, s1.trans s2, h2.put (c' := .lst (xs.set j v)) ⟨_, upd_same, g2.set j (rv.mono (s1.trans s2))⟩, q2⟩
end
end PD
/-! PD4: what is walked, loops, comprehensions. -/
namespace PD
open PySem PySem.Spec PyProof.Rows L2
/-! ### a later start -/
theorem wofD_here {K : PySem.W.Frag} {F0 F H0 H : Hp} {μ0 μ : Mu} {W : XD} (st : Step F0 μ0 H0 F μ H) : ∀ c d σ H', WofD K F μ H W c d σ H' → WofD K F0 μ0 H0 W c d σ H' := fun c d σ H' h => by
  obtain ⟨F2, μ2, δ, ns, ds, s, x⟩ := h; exact ⟨F2, μ2, δ, ns, ds, st.trans s, x⟩
def Ct.here (Γ : Ct) {F H : Hp} {μ : Mu} (st : Step Γ.F0 Γ.μ0 Γ.H0 F μ H) : Ct := ⟨Γ.X, F, μ, H, Γ.W, Γ.nn, Γ.tk.imp (wofD_here st), Γ.po⟩
section
variable {Γ : Ct} {F F' F2 H H' H2 : Hp} {δ δ' : Dl} {μ μ' : Mu} {σ σ' : L2.St}
theorem At.here (a : At Γ F δ μ σ H) : At (Γ.here a.st) F δ μ σ H := ⟨Step.refl _ _ _, a.sx, a.fr⟩
theorem At.back {st : Step Γ.F0 Γ.μ0 Γ.H0 F μ H} (a : At (Γ.here st) F2 δ' μ' σ' H2) : At Γ F2 δ' μ' σ' H2 := ⟨st.trans a.st, a.sx, a.fr⟩
theorem At.frame (a : At Γ F δ μ σ H) (h : Fr Γ.X.K F σ' δ') : At Γ F δ' μ σ' H := ⟨a.st, a.sx, h⟩
theorem At.updFree (a : At Γ F δ μ σ H) {p : Addr} {o : HO} (h0 : Γ.H0 p = none ∨ p ∈ dom Γ.μ0) (hF : F p = none) (hμ : p ∉ dom μ) : At Γ F δ μ σ (upd H p o) := by
  refine ⟨⟨a.st.ext, fun b u h hn => ?_, a.st.new, a.st.cell⟩, ⟨fun b u h => ?_, a.sx.off, a.sx.nd, fun c hc => (a.sx.cells c hc).mono (Same.refl F) (upd_ne fun e => hμ (by rw [← e]; exact List.mem_map.mpr ⟨c, hc, rfl⟩))⟩, a.fr⟩
  · have hb : b ≠ p := fun z => by
      rcases h0 with q | q
      · rw [z, q] at h; cases h
      · exact hn (by rw [z]; exact q)
    rw [upd_ne hb]; exact a.st.keep b u h hn
  · rw [upd_ne (fun z => by rw [z, hF] at h; cases h)]; exact a.sx.sub _ _ h
end
/-! ### what is walked -/
structure ItOk (K : PySem.W.Frag) (J : It) (ds : List D) (S : Mu → Prop) (F1 : Hp) : Prop where
  go : ∀ (Γ : Ct), Γ.X.K = K → ∀ i F δ μ σ H, Same F1 F → At Γ F δ μ σ H → S μ → ∀ d, ds[i]? = some d → J.go i H ∧ ∀ x H', J.yld i H x H' → ∃ F', Same F F' ∧ At Γ F' δ μ σ H' ∧ Dp K F' d x
  stop : ∀ (Γ : Ct), Γ.X.K = K → ∀ i F δ μ σ H, Same F1 F → At Γ F δ μ σ H → S μ → ds.length ≤ i → J.stop i H
def eid (Γ : Ct) (tg iter : Expr) (δ : Dl) (μ : Mu) (R : List D → (Mu → Prop) → Mu → Prop) : Prop := ∀ F σ H, At Γ F δ μ σ H → wi Γ.X tg iter σ H fun J H1 => ∃ F1 ds S μ1, Same F F1 ∧ At Γ F1 δ μ1 σ H1 ∧ ItOk Γ.X.K J ds S F1 ∧ R ds S μ1
/-- pyIter of a value -/
def itf (X : Cx) (tg : Expr) (x : V) (H : Hp) (R : It → Hp → Prop) : Prop := ∀ (pins : List (Addr × Obj)) (s : Shared) (σ : L2.St) (v : Value), Inv X pins σ H s → RelV x v → wpAny (model X.prog X.w) X.A (pyIter v) (PIE X pins σ tg R) X.xe s
theorem itf_list {X : Cx} {tg : Expr} {a : Addr} {xs : List V} {H : Hp} {R : It → Hp → Prop} (hq : SqL X.K H a xs) (q : R (Itl X.K a) H) : itf X tg (.ref a) H R := fun pins s σ v I1 r1 => by
  cases r1
  obtain ⟨its, rv, p, hz⟩ := I1.list hq
  refine wpAny_pyIter_list p.isList ?_
  refine ⟨s.heap.objs.size, [s.heap.objs.size], _, _, H, rfl, I1.kept (t' := s.toks) fun b o e => Heap.get?_push_of_some _ e, turn_list a _, ⟨_, Heap.get?_push_size _ rfl, rfl, rfl⟩, fun b hb => ?_, q⟩
  have e : b = s.heap.objs.size := by simpa using hb
  subst e
  exact I1.fpOk (Nat.le_refl _) (I1.hok.fresh (Nat.le_refl _))
theorem itf_tup {X : Cx} {tg : Expr} {a : Addr} {xs : List V} {H : Hp} {R : It → Hp → Prop} (hq : SqT X.K H a xs) (q : R (Itt X.K a) H) : itf X tg (.ref a) H R := fun pins s σ v I1 r1 => by
  cases r1
  obtain ⟨its, rv, p, hz⟩ := I1.tuple hq
  refine wpAny_pyIter_tuple (show s.heap.IsTuple a its.toArray from p) ?_
  refine ⟨s.heap.objs.size, [s.heap.objs.size], _, _, H, rfl, I1.kept (t' := s.toks) fun b o e => Heap.get?_push_of_some _ e, turn_tuple a _, ⟨_, Heap.get?_push_size _ rfl, rfl, rfl⟩, fun b hb => ?_, q⟩
  have e : b = s.heap.objs.size := by simpa using hb
  subst e
  exact I1.fpOk (Nat.le_refl _) (I1.hok.fresh (Nat.le_refl _))
theorem itf_mono {X : Cx} {tg : Expr} {x : V} {H : Hp} {R R' : It → Hp → Prop} (h : itf X tg x H R) (k : ∀ J H', R J H' → R' J H') : itf X tg x H R' := fun pins s σ v I r =>
  thn (h pins s σ v I r) fun itv s2 ⟨it, fp, tn, J, H', e, I2, T, st, f, r⟩ => ⟨it, fp, tn, J, H', e, I2, T, st, f, k J H' r⟩
def PostI (Γ : Ct) (F : Hp) (δ : Dl) (σ : L2.St) (R : List D → (Mu → Prop) → Mu → Prop) : It → Hp → Prop := fun J H1 => ∃ F1 ds S μ1, Same F F1 ∧ At Γ F1 δ μ1 σ H1 ∧ ItOk Γ.X.K J ds S F1 ∧ R ds S μ1
theorem PostI.up {Γ : Ct} {F F' : Hp} {δ : Dl} {σ : L2.St} {R : List D → (Mu → Prop) → Mu → Prop} (e : Same F F') {J : It} {H1 : Hp} (h : PostI Γ F' δ σ R J H1) : PostI Γ F δ σ R J H1 := by
  obtain ⟨F1, ds, S, μ1, s, x⟩ := h; exact ⟨F1, ds, S, μ1, e.trans s, x⟩
def itd (Γ : Ct) (tg : Expr) (x : D) (δ : Dl) (μ : Mu) (R : List D → (Mu → Prop) → Mu → Prop) : Prop := ∀ F σ H v, At Γ F δ μ σ H → Dp Γ.X.K F x v → itf Γ.X tg v H (PostI Γ F δ σ R)
section
variable {Γ : Ct} {tg iter : Expr} {δ : Dl} {μ : Mu} {R : List D → (Mu → Prop) → Mu → Prop}
theorem pi_itf {X : Cx} : PI X tg iter (fun σ H R => we X iter σ H fun x H1 => itf X tg x H1 R) := ⟨fun pins s σ H R I h => thn (h pins s I) fun v s1 ⟨x, H1, I1, r1, q1⟩ => q1 pins s1 σ v I1 r1⟩
theorem eid_of (h : ed Γ iter δ μ fun d μ1 => itd Γ tg d δ μ1 R) : eid Γ tg iter δ μ R := fun F σ H a =>
  wi_of pi_itf (we_mono (h F σ H a) fun v H1 ⟨F1, d, μ1, s1, a1, r1, q1⟩ => itf_mono (q1 F1 σ H1 v a1 r1) fun J H' z => PostI.up s1 z)
theorem itOk_list {K : PySem.W.Frag} {F : Hp} {a : Addr} {vs : List V} {ds : List D} (h : F a = some (.lst vs)) (r : Dps K F ds vs) : ItOk K (Itl K a) ds (fun _ => True) F where
  go := fun Γ hK i F2 δ μ σ H s a2 _ d hd => by
    have hl : SqL K H a vs := .inl (.inl (a2.sx.sub _ _ (s _ _ h)))
    obtain ⟨v, e1, r1⟩ := (r.mono s).get hd
    refine ⟨⟨vs, v, hl, e1⟩, fun x H' y => ?_⟩
    obtain ⟨e2, y⟩ := y
    rw [e2]
    have e3 := y vs hl
    rw [e1] at e3
    rw [← Option.some.inj e3]
    exact ⟨F2, Same.refl _, a2, r1⟩
  stop := fun Γ hK i F2 δ μ σ H s a2 _ hi => ⟨vs, .inl (.inl (a2.sx.sub _ _ (s _ _ h))), by rw [← r.length]; exact hi⟩
theorem itOk_rl {K : PySem.W.Frag} {F : Hp} {a : Addr} {vs : List V} {ds : List D} (h : SqL K F a vs) (r : Dps K F ds vs) : ItOk K (Itl K a) ds (fun _ => True) F where
  go := fun Γ hK i F2 δ μ σ H s a2 _ d hd => by
    have hl : SqL K H a vs := a2.sx.sub.seq (s.seq h)
    obtain ⟨v, e1, r1⟩ := (r.mono s).get hd
    refine ⟨⟨vs, v, hl, e1⟩, fun x H' y => ?_⟩
    obtain ⟨e2, y⟩ := y
    rw [e2]
    have e3 := y vs hl
    rw [e1] at e3
    rw [← Option.some.inj e3]
    exact ⟨F2, Same.refl _, a2, r1⟩
  stop := fun Γ hK i F2 δ μ σ H s a2 _ hi => ⟨vs, a2.sx.sub.seq (s.seq h), by rw [← r.length]; exact hi⟩
theorem itOk_tup {K : PySem.W.Frag} {F : Hp} {a : Addr} {vs : List V} {ds : List D} (h : SqT K F a vs) (r : Dps K F ds vs) : ItOk K (Itt K a) ds (fun _ => True) F where
  go := fun Γ hK i F2 δ μ σ H s a2 _ d hd => by
    have hl : SqT K H a vs := Same.sqT a2.sx.sub (Same.sqT s h)
    obtain ⟨v, e1, r1⟩ := (r.mono s).get hd
    refine ⟨⟨vs, v, hl, e1⟩, fun x H' y => ?_⟩
    obtain ⟨e2, y⟩ := y
    rw [e2]
    have e3 := y vs hl
    rw [e1] at e3
    rw [← Option.some.inj e3]
    exact ⟨F2, Same.refl _, a2, r1⟩
  stop := fun Γ hK i F2 δ μ σ H s a2 _ hi => ⟨vs, Same.sqT a2.sx.sub (Same.sqT s h), by rw [← r.length]; exact hi⟩
theorem itOk_own {K : PySem.W.Frag} {F : Hp} {a : Addr} {ds : List D} : ItOk K (Itl K a) ds (fun μ => (a, Cell.lst ds) ∈ μ) F where
  go := fun Γ hK i F2 δ μ σ H s a2 hm d hd => by
    subst hK
    obtain ⟨vs, h1, r⟩ := a2.sx.cells _ hm
    have hl : SqL Γ.X.K H a vs := .inl (.inl h1)
    obtain ⟨v, e1, r1⟩ := r.get hd
    refine ⟨⟨vs, v, hl, e1⟩, fun x H' y => ?_⟩
    obtain ⟨e2, y⟩ := y
    rw [e2]
    have e3 := y vs hl
    rw [e1] at e3
    rw [← Option.some.inj e3]
    exact ⟨F2, Same.refl _, a2, r1⟩
  stop := fun Γ hK i F2 δ μ σ H s a2 hm hi => by
    subst hK
    obtain ⟨vs, h1, r⟩ := a2.sx.cells _ hm
    exact ⟨vs, .inl (.inl h1), by rw [← r.length]; exact hi⟩
theorem itd_lst {ds : List D} (q : R ds (fun _ => True) μ) : itd Γ tg (.lst ds) δ μ R := fun F σ H v a r => by
  obtain ⟨p, vs, rfl, h1, h2⟩ := dpL r
  exact itf_list (.inl (.inl (a.sx.sub _ _ h1))) ⟨F, ds, _, μ, Same.refl F, a, itOk_list h1 h2, q⟩
theorem itd_rl {ds : List D} (q : R ds (fun _ => True) μ) : itd Γ tg (.rl ds) δ μ R := fun F σ H v a r => by
  obtain ⟨p, vs, rfl, h1, h2⟩ := dpRl r
  exact itf_list (a.sx.sub.seq h1) ⟨F, ds, _, μ, Same.refl F, a, itOk_rl h1 h2, q⟩
theorem itd_tup {ds : List D} (q : R ds (fun _ => True) μ) : itd Γ tg (.tup ds) δ μ R := fun F σ H v a r => by
  obtain ⟨p, vs, rfl, h1, h2⟩ := dpT r
  exact itf_tup (Same.sqT a.sx.sub h1) ⟨F, ds, _, μ, Same.refl F, a, itOk_tup h1 h2, q⟩
theorem itd_own {p : Addr} {ds : List D} (hm : (p, Cell.lst ds) ∈ μ) (q : R ds (fun μ => (p, Cell.lst ds) ∈ μ) μ) : itd Γ tg (.ref p) δ μ R := fun F σ H v a r => by
  rw [dpR r]
  obtain ⟨vs, h1, h2⟩ := a.sx.cells _ hm
  exact itf_list (.inl (.inl h1)) ⟨F, ds, _, μ, Same.refl F, a, itOk_own, q⟩
/-- range(n) -/
theorem itOk_range {K : PySem.W.Frag} {F : Hp} {lo : Int} {n : Nat} : ItOk K (Itr lo n) ((List.range n).map fun i : Nat => D.int (lo + i)) (fun _ => True) F where
  go := fun Γ hK i F2 δ μ σ H s a2 _ d hd => by
    rw [List.getElem?_map] at hd
    cases e : (List.range n)[i]? with
    | none => rw [e] at hd; cases hd
    | some j =>
      rw [e] at hd
      have hi : i < n := by
        have := (List.getElem?_eq_some_iff.mp e).1
        rw [List.length_range] at this; exact this
      have ej : j = i := by
        rw [List.getElem?_range hi] at e
        exact (Option.some.inj e).symm
      subst ej
      refine ⟨hi, fun x H' y => ?_⟩
      obtain ⟨e2, y⟩ := y
      rw [e2, y, ← Option.some.inj hd]
      exact ⟨F2, Same.refl _, a2, dpi⟩
  stop := fun Γ hK i F2 δ μ σ H s a2 _ hi => by
    rw [List.length_map, List.length_range] at hi; exact hi
theorem eid_range {e : Expr} {p pos : Pos} (hm : Γ.X.mg "range" = none) (h : ea Γ [e] δ μ fun ds μ1 => ∃ n : Int, ds = [.int n] ∧ n < 2 ^ 62 ∧ -(2 ^ 62) ≤ n ∧ R ((List.range n.toNat).map fun i : Nat => D.int (0 + i)) (fun _ => True) μ1)
    (hg : Gl Γ.X "range" := by rfl) (hs : starEach [e] Γ.X.env = [(false, eval e Γ.X.env)] := by rfl) : eid Γ tg (.Call (.Name "range" p) [e] [] pos) δ μ R := fun F σ H a =>
  wi_of (pi_range1 hg hm pa_wa hs) (wa_mono (h F σ H a) fun vs H1 ⟨F1, ds, μ1, s1, a1, r1, n, e1, h1, h2, q⟩ => by
    subst e1
    obtain ⟨v, rfl, r2⟩ := r1.one
    rw [dpI r2]
    exact ⟨n, rfl, h2, h1, F1, _, _, μ1, s1, a1, itOk_range, q⟩)
theorem eid_range2 {e e2 : Expr} {p pos : Pos} (hm : Γ.X.mg "range" = none) (h : ea Γ [e, e2] δ μ fun ds μ1 => ∃ i n : Int, ds = [.int i, .int n] ∧ (-(2 ^ 62) ≤ i ∧ i < 2 ^ 62 ∧ -(2 ^ 62) ≤ n ∧ n < 2 ^ 62) ∧ R ((List.range (n - i).toNat).map fun k : Nat => D.int (i + k)) (fun _ => True) μ1)
    (hg : Gl Γ.X "range" := by rfl) (hs : starEach [e, e2] Γ.X.env = [(false, eval e Γ.X.env), (false, eval e2 Γ.X.env)] := by rfl) (hs2 : starEach [e2] Γ.X.env = [(false, eval e2 Γ.X.env)] := by rfl) : eid Γ tg (.Call (.Name "range" p) [e, e2] [] pos) δ μ R := fun F σ H a =>
  wi_of (pi_range2 hg hm pa_wa hs hs2) (wa_mono (h F σ H a) fun vs H1 ⟨F1, ds, μ1, s1, a1, r1, i, n, e1, h1, q⟩ => by
    subst e1
    obtain ⟨v, w, rfl, r2, r3⟩ := r1.two
    rw [dpI r2, dpI r3]
    exact ⟨i, n, rfl, h1, F1, _, _, μ1, s1, a1, itOk_range, q⟩)
/-- enumerate(a list) -/
def enumD (ds : List D) : List D := ds.zipIdx.map fun p => .tup [.int (p.2 : Nat), p.1]
theorem enumD_get {ds : List D} {i : Nat} {d : D} (h : (enumD ds)[i]? = some d) : ∃ e, ds[i]? = some e ∧ d = .tup [.int (i : Nat), e] := by
  unfold enumD at h
  rw [List.getElem?_map, List.getElem?_zipIdx] at h
  cases q : ds[i]? with
  | none => rw [q] at h; cases h
  | some e =>
    rw [q] at h
    refine ⟨e, rfl, ?_⟩
    have := Option.some.inj h
    rw [← this]
    show D.tup [.int ((0 + i : Nat) : Int), e] = _
    rw [Nat.zero_add]
theorem enumD_len {ds : List D} : (enumD ds).length = ds.length := by unfold enumD; rw [List.length_map, List.length_zipIdx]
theorem itOk_enum {K : PySem.W.Frag} {F : Hp} {a : Addr} {ds : List D} {S : Mu → Prop} (base : ItOk K (Itl K a) ds S F) : ItOk K (Ite K a) (enumD ds) S F where
  go := fun Γ hK i F2 δ μ σ H s a2 hS d hd => by
    obtain ⟨e, he, rfl⟩ := enumD_get hd
    obtain ⟨⟨xs, x, h1, h2⟩, g⟩ := base.go Γ hK i F2 δ μ σ H s a2 hS e he
    refine ⟨⟨xs, x, h1, h2⟩, fun v H' y => ?_⟩
    obtain ⟨T, x', rfl, hT, rfl, y⟩ := y
    obtain ⟨F3, s3, a3, r3⟩ := g x' H ⟨rfl, y⟩
    have sF := same_upd (o := HO.tup [.int (i : Nat), x']) (a3.sx.sub.free hT)
    exact ⟨upd F3 T (.tup [.int (i : Nat), x']), s3.trans sF, a3.pers _ hT, dpt (.inl (.inl upd_same)) (Dps.cons dpi (Dps.cons (r3.mono sF) Dps.nil))⟩
  stop := fun Γ hK i F2 δ μ σ H s a2 hS hi => base.stop Γ hK i F2 δ μ σ H s a2 hS (by rw [enumD_len] at hi; exact hi)
end
/-! ### for -/
section
variable {Γ : Ct} {tg iter : Expr} {body : List Stmt} {δ : Dl} {μ : Mu} {E : En} {pos : Pos}
theorem sd_for (hc : Γ.X.calm = true) (h : eid Γ tg iter δ μ fun ds S μ1 => ∃ I : Nat → Dl → Mu → Prop, I 0 δ μ1 ∧ (∀ i δ' μ', i ≤ ds.length → I i δ' μ' → S μ') ∧
      (∀ i d δ' μ', ds[i]? = some d → I i δ' μ' → gd Γ tg d δ' μ' fun δ2 μ2 => sds Γ body δ2 μ2 { E with nx := I (i + 1), ct := I (i + 1), bk := E.nx }) ∧ ∀ δ' μ', I ds.length δ' μ' → E.nx δ' μ')
    (hs : ∀ x, foldedSetIterable iter Γ.X.env x = pure x := by intro _; rfl) : sd Γ (.For tg iter body [] pos) δ μ E := fun F σ H a => by
  refine ws_of (ps_for Γ.po hc pi_wi pg_wg pss_wss hs) (wi_mono (h F σ H a) fun J H1 ⟨F1, ds, S, μ1, s1, a1, ok, I, h0, hS, hb, hd⟩ => ?_)
  refine ⟨fun i m σ' H' => m = ds.length - i ∧ i ≤ ds.length ∧ ∃ F' δ' μ', Same F1 F' ∧ At Γ F' δ' μ' σ' H' ∧ I i δ' μ', ⟨ds.length, by simp, Nat.zero_le _, F1, δ, μ1, Same.refl _, a1, h0⟩, ?_⟩
  rintro i m σ' H' ⟨rfl, hi, F', δ', μ', s', a', hI⟩
  by_cases hlt : i < ds.length
  · have e : ds[i]? = some ds[i] := List.getElem?_eq_getElem hlt
    obtain ⟨g1, g2⟩ := ok.go Γ rfl i F' δ' μ' σ' H' s' a' (hS i δ' μ' hi hI) _ e
    refine .inr ⟨g1, PostN Γ F1 (I (i + 1)), fun σ2 H2 ⟨F2, δ2, μ2, s2, a2, q2⟩ => ⟨ds.length - (i + 1), by omega, rfl, hlt, F2, δ2, μ2, s2, a2, q2⟩, fun x H2 y => ?_⟩
    obtain ⟨F2, s2, a2, r2⟩ := g2 x H2 y
    refine wg_mono (hb i _ δ' μ' e hI F2 σ' H2 x a2 r2) fun σ3 H3 ⟨F3, δ3, μ3, s3, a3, q3⟩ => ?_
    exact wss_mono (q3 F3 σ3 H3 a3) ⟨fun _ _ z => z.up ((s'.trans s2).trans s3), fun _ _ z => z.up ((s1.trans (s'.trans s2)).trans s3), fun _ _ z => z.up ((s1.trans (s'.trans s2)).trans s3), fun _ _ z => z.up ((s'.trans s2).trans s3)⟩
  · have e : i = ds.length := by omega
    subst e
    exact .inl ⟨ok.stop Γ rfl _ F' δ' μ' σ' H' s' a' (hS _ δ' μ' hi hI) (Nat.le_refl _), F', δ', μ', s1.trans s', a', hd _ _ hI⟩
/-- while, by an invariant and a measure of the state -/
theorem sd_while {c : Expr} (I : Nat → Dl → Mu → Prop) (m0 : Nat) (h0 : I m0 δ μ) (h : ∀ m δ' μ', I m δ' μ' → et Γ c δ' μ' fun b μ2 => if b = true then sds Γ body δ' μ2 { E with nx := fun δ3 μ3 => ∃ m', m' < m ∧ I m' δ3 μ3, ct := fun δ3 μ3 => ∃ m', m' < m ∧ I m' δ3 μ3, bk := E.nx } else E.nx δ' μ2) :
    sd Γ (.While c body [] pos) δ μ E := fun F σ H a => by
  refine ws_of (ps_while Γ.po pt_wt pss_wss) ?_
  refine ⟨fun m σ' H' => ∃ F' δ' μ', Same F F' ∧ At Γ F' δ' μ' σ' H' ∧ I m δ' μ', ⟨m0, F, δ, μ, Same.refl _, a, h0⟩, ?_⟩
  rintro m σ' H' ⟨F', δ', μ', s', a', hI⟩
  refine wt_mono (h m δ' μ' hI F' σ' H' a') fun b H2 ⟨F2, μ2, s2, a2, q2⟩ => ?_
  cases b with
  | true =>
    rw [if_pos rfl] at q2 ⊢
    refine ⟨PostN Γ F fun δ3 μ3 => ∃ m', m' < m ∧ I m' δ3 μ3, fun σ3 H3 ⟨F3, δ3, μ3, s3, a3, m', hm, q3⟩ => ⟨m', hm, F3, δ3, μ3, s3, a3, q3⟩, ?_⟩
    exact wss_mono (q2 F2 σ' H2 a2) ⟨fun _ _ z => z.up (s'.trans s2), fun _ _ z => z.up (s'.trans s2), fun _ _ z => z.up (s'.trans s2), fun _ _ z => z.up (s'.trans s2)⟩
  | false =>
    rw [if_neg Bool.false_ne_true] at q2 ⊢
    exact ⟨F2, δ', μ2, s'.trans s2, a2, q2⟩
end
/-! ### comprehensions -/
def wipeD (δ : Dl) : List Nat → Dl
  | [] => δ
  | v :: vs => (wipeD δ vs).set v none
theorem Fr.wipe {K : PySem.W.Frag} {F : Hp} {σ : L2.St} {δ : Dl} (h : Fr K F σ δ) : ∀ vs : List Nat, Fr K F (L2.wipe σ vs) (wipeD δ vs)
  | [] => h
  | v :: vs => (Fr.wipe h vs).unset v none
theorem takesF {X : Cx} {K : PySem.W.Frag} {F0 : Hp} {μ0 : Mu} {H0 : Hp} : Takes X (WofD K F0 μ0 H0 fun _ _ _ _ _ => False) := (takes0 (X := X)).imp fun c d σ H h => by
  obtain ⟨_, _, _, _, _, _, _, _, _, z⟩ := h; exact z
/-- the context of a comprehension's block -/
@[reducible] def Ct.blk (Γ : Ct) (scope : Scope) (s : Shared) (H : Hp) (C : Addr) (cl : List (Str × Addr)) (fp : List Addr) (F0 : Hp) (μ0 : Mu) (H0 : Hp) : Ct :=
  ⟨Γ.X.blk s H scope (compEnvC scope cl C Γ.X.env) fp, F0, μ0, H0, fun _ _ _ _ _ => False, false, takesF, PassesOwn.never⟩
/-- a target in a block: only the block's own slots are stored -/
def gv (Γ : Ct) (tg : Expr) (d : D) (vs : List Nat) (δ : Dl) (μ : Mu) (Q : Dl → Mu → Prop) : Prop := ∀ F σ H v, At Γ F δ μ σ H → Dp Γ.X.K F d v → wg Γ.X tg v σ H fun σ' H' => L2.wipe σ' vs = L2.wipe σ vs ∧ PostN Γ F Q σ' H'
def gvs (Γ : Ct) (tg : List Expr) (ds : List D) (vs : List Nat) (δ : Dl) (μ : Mu) (Q : Dl → Mu → Prop) : Prop := ∀ F σ H us, At Γ F δ μ σ H → Dps Γ.X.K F ds us → wgs Γ.X tg us σ H fun σ' H' => L2.wipe σ' vs = L2.wipe σ vs ∧ PostN Γ F Q σ' H'
theorem wipe_set_in {σ : L2.St} {j : Nat} {x : Option V} : ∀ {vs : List Nat}, j ∈ vs → L2.wipe (σ.set j x) vs = L2.wipe σ vs
  | v :: vs, h => by
    show (L2.wipe (σ.set j x) vs).set v none = (L2.wipe σ vs).set v none
    by_cases hj : j ∈ vs
    · rw [wipe_set_in hj]
    · have e : j = v := by rcases List.mem_cons.mp h with e | e; exact e; exact absurd e hj
      subst e
      have key : ∀ (us : List Nat), j ∉ us → L2.wipe (σ.set j x) us = (L2.wipe σ us).set j x := by
        intro us
        induction us with
        | nil => intro _; rfl
        | cons u us ih =>
          intro hu
          show (L2.wipe (σ.set j x) us).set u none = ((L2.wipe σ us).set u none).set j x
          rw [ih fun z => hu (List.mem_cons_of_mem _ z)]
          exact List.set_comm _ _ (fun z => hu (by rw [z]; exact List.mem_cons_self))
      rw [key vs hj, List.set_set]
section
variable {Γ : Ct} {δ : Dl} {μ : Mu} {vs : List Nat} {pos : Pos}
theorem gv_name {i : Nat} {x : Str} {d : D} {Q : Dl → Mu → Prop} (hN : Γ.X.N.Nodup) (hi : Γ.X.N[i]? = some x) (hv : i ∈ vs) (q : Q (δ.set i (some d)) μ) (hx : Loc Γ.X.env.scope x := by first | exact .inl rfl | exact .inr rfl)
    (hf : Γ.X.fn x = true ∨ Γ.X.env.scope.names.lookup x = some .local := by first | exact .inl rfl | exact .inr rfl | assumption) : gv Γ (.Name x pos) d vs δ μ Q := fun F σ H v a r =>
  wg_of (pg_name hN hi hx hf) ⟨wipe_set_in hv, F, _, μ, Same.refl F, a.fr_set i r, q⟩
theorem gvs_nil {Q : Dl → Mu → Prop} (q : Q δ μ) : gvs Γ [] [] vs δ μ Q := fun F σ H us a r => wgs_of pgs_nil ⟨r.unnil, rfl, F, δ, μ, Same.refl F, a, q⟩
theorem gvs_cons {e : Expr} {es : List Expr} {d : D} {ds : List D} {Q : Dl → Mu → Prop} (h : gv Γ e d vs δ μ fun δ' μ' => gvs Γ es ds vs δ' μ' Q) (hs : (assignEach (e :: es) Γ.X.env).map (·.2) = assign e Γ.X.env :: (assignEach es Γ.X.env).map (·.2) := by rfl) :
    gvs Γ (e :: es) (d :: ds) vs δ μ Q := fun F σ H us a r => by
  obtain ⟨v, ws', rfl, r1, r2⟩ := r.uncons
  refine wgs_of (pgs_cons pg_wg pgs_wgs hs) ⟨v, ws', rfl, wg_mono (h F σ H v a r1) fun σ1 H1 ⟨w1, F1, δ1, μ1, s1, a1, q1⟩ => ?_⟩
  exact wgs_mono (q1 F1 σ1 H1 ws' a1 (r2.mono s1)) fun σ2 H2 ⟨w2, z⟩ => ⟨w2.trans w1, z.up s1⟩
theorem gv_tup {es : List Expr} {k : Nat} {ds : List D} {n : Nat} {Q : Dl → Mu → Prop} (hc : Γ.X.calm = true) (h : ds.length = n ∧ gvs Γ es ds vs δ μ Q) (hn : (assignEach es Γ.X.env).length = n := by rfl) (hst : (assignEach es Γ.X.env).findIdx? (·.1) = none := by rfl) :
    gv Γ (.Tuple es k pos) (.tup ds) vs δ μ Q := fun F σ H v a r => by
  obtain ⟨p, us, rfl, hq, r⟩ := dpT r
  exact wg_of (pg_tup hc pgs_wgs hn hst) ⟨p, us, rfl, Same.sqT a.sx.sub hq, by rw [← r.length]; exact h.1, h.2 F σ H us a r⟩
end
/-- the tests of a comprehension: none, one -/
def eif (Γ : Ct) (ifs : List Expr) (δ : Dl) (μ : Mu) (Q : Bool → Mu → Prop) : Prop := match ifs with
  | [] => Q true μ
  | [c] => et Γ c δ μ Q
  | _ => False
def wif (X : Cx) : List Expr → TT
  | [] => tYes
  | [c] => wt X c
  | _ => fun _ _ _ => False
theorem pts_wif {X : Cx} : ∀ ifs : List Expr, PTs X ifs (wif X ifs)
  | [] => pts_nil
  | [c] => pts_one pt_wt
  | _ :: _ :: _ => ⟨fun _ _ _ _ _ _ h => h.elim⟩
theorem eif_run {Γ : Ct} {ifs : List Expr} {δ : Dl} {μ : Mu} {Q : Bool → Mu → Prop} (h : eif Γ ifs δ μ Q) {F σ H} (a : At Γ F δ μ σ H) {R : Bool → Hp → Prop} (k : ∀ b H', PostT Γ F δ σ Q b H' → R b H') : wif Γ.X ifs σ H R := by
  match ifs, h with
  | [], h => exact k true H ⟨F, μ, Same.refl F, a, h⟩
  | [c], h => exact wt_mono (h F σ H a) fun b H' z => k b H' z
section
variable {Γ : Ct} {elt tg iter : Expr} {ifs : List Expr} {scope : Scope} {own : List (Str × Nat)} {pos : Pos} {δ : Dl} {μ : Mu} {Q : D → Mu → Prop}
/-- a judgement in all blocks of a comprehension -/
def allB (Γ : Ct) (scope : Scope) (J : Ct → Prop) : Prop := ∀ (s : Shared) (H : Hp) (C : Addr) (cl : List (Str × Addr)) (fp : List Addr) (F0 : Hp) (μ0 : Mu) (H0 : Hp), J (Γ.blk scope s H C cl fp F0 μ0 H0)
/-- what a comprehension asks: I by the turn, the items made so far, the cells -/
def lcd (Γ : Ct) (elt tg iter : Expr) (ifs : List Expr) (scope : Scope) (vs : List Nat) (δ : Dl) (μ : Mu) (Q : List D → Mu → Prop) : Prop := eid Γ tg iter δ μ fun ds S μ1 => ds.length ≤ 1000000 ∧ ∃ I : Nat → List D → Mu → Prop, I 0 [] μ1 ∧ (∀ i acc μ', i ≤ ds.length → I i acc μ' → S μ' ∧ acc.length ≤ i) ∧
      (∀ i d acc μ', ds[i]? = some d → I i acc μ' → allB Γ scope fun Γb => gv Γb tg d vs (wipeD δ vs) μ' fun δ2 μ2 => allB Γ scope fun Γc => eif Γc ifs δ2 μ2 fun b μ3 =>
        if b = true then allB Γ scope fun Γd => ed Γd elt δ2 μ3 fun r μ4 => I (i + 1) (acc ++ [r]) μ4 else I (i + 1) acc μ3) ∧ ∀ acc μ', I ds.length acc μ' → Q acc μ'
/-- the readings of a block's parts, of all blocks at once -/
def wgB (X : Cx) (scope : Scope) (tg : Expr) : TG := fun v σ H Q => ∀ s H0 C cl fp, wg (X.blk s H0 scope (compEnvC scope cl C X.env) fp) tg v σ H Q
def wtB (X : Cx) (scope : Scope) (ifs : List Expr) : TT := fun σ H Q => ∀ s H0 C cl fp, wif (X.blk s H0 scope (compEnvC scope cl C X.env) fp) ifs σ H Q
def weB (X : Cx) (scope : Scope) (elt : Expr) : TE := fun σ H Q => ∀ s H0 C cl fp, we (X.blk s H0 scope (compEnvC scope cl C X.env) fp) elt σ H Q
theorem pg_wgB {X : Cx} (s H C cl fp) : PG (X.blk s H scope (compEnvC scope cl C X.env) fp) tg (wgB X scope tg) := ⟨fun pins s' σ H' v u Q I r h => h s H C cl fp pins s' u I r⟩
theorem pts_wtB {X : Cx} (s H C cl fp) : PTs (X.blk s H scope (compEnvC scope cl C X.env) fp) ifs (wtB X scope ifs) := ⟨fun pins s' σ H' Q I h => (pts_wif ifs).run pins s' σ H' Q I (h s H C cl fp)⟩
theorem pe_weB {X : Cx} (s H C cl fp) : PE (X.blk s H scope (compEnvC scope cl C X.env) fp) elt (weB X scope elt) := ⟨fun pins s' σ H' Q I h => h s H C cl fp pins s' I⟩
theorem wipe_wipe {σ : L2.St} : ∀ {vs : List Nat}, L2.wipe (L2.wipe σ vs) vs = L2.wipe σ vs := by
  have key : ∀ (vs us : List Nat) (σ : L2.St), (∀ u ∈ us, u ∈ vs) → L2.wipe (L2.wipe σ us) vs = L2.wipe σ vs := by
    intro vs us
    induction us with
    | nil => intro σ _; rfl
    | cons u us ih =>
      intro σ h
      show L2.wipe ((L2.wipe σ us).set u none) vs = _
      rw [wipe_set_in (h u List.mem_cons_self)]
      exact ih σ fun x hx => h x (List.mem_cons_of_mem _ hx)
  exact fun {vs} => key vs vs σ fun _ h => h
/-- the block's state: the new list stands apart -/
structure LcAt (Γ : Ct) (F1 : Hp) (δ : Dl) (σ : L2.St) (Dl : Addr) (acc : List D) (μ : Mu) (H F : Hp) : Prop where
  sm : Same F1 F
  at_ : At Γ F δ μ σ H
  ls : ∃ vs, H Dl = some (.lst vs) ∧ Dps Γ.X.K F acc vs
  f : F Dl = none
  m : Dl ∉ dom μ
theorem LcAt.step {F1 F F2 H H2 : Hp} {σ σb : L2.St} {δb : PD.Dl} {Da : Addr} {acc : List D} {μ μ2 : Mu} (L : LcAt Γ F1 δ σ Da acc μ H F) (st : Step F μ H F2 μ2 H2) (sx : Sx Γ.X.K F2 μ2 H2) : LcAt Γ F1 δ σ Da acc μ2 H2 F2 := by
  obtain ⟨vs, h1, h2⟩ := L.ls
  refine ⟨L.sm.trans st.ext, ⟨L.at_.st.trans st, sx, L.at_.fr.mono st.ext⟩, ⟨vs, st.keep _ _ h1 L.m, h2.mono st.ext⟩, ?_, fun hm => ?_⟩
  · cases e : F2 Da with
    | none => rfl
    | some o =>
      rcases st.new _ _ e L.f with q | q
      · rw [h1] at q; cases q
      · exact absurd q L.m
  · rcases st.cell _ hm with q | q
    · exact L.m q
    · rw [h1] at q; cases q
theorem lcd_run {vs : List Nat} {Q : List D → Mu → Prop} (h : lcd Γ elt tg iter ifs scope vs δ μ Q) (F σ H) (a : At Γ F δ μ σ H) :
    tLc (wi Γ.X tg iter) (wgB Γ.X scope tg) (wtB Γ.X scope ifs) (weB Γ.X scope elt) vs σ H (PostE Γ F δ σ fun d μ' => ∃ ds, d = .lst ds ∧ Q ds μ') := by
  refine wi_mono (h F σ H a) fun J H1 ⟨F1, ds, S, μ1, s1, a1, ok, hz, I, h0, hS, hb, hd⟩ => fun Da hD => ?_
  have h0D : Γ.H0 Da = none ∨ Da ∈ dom Γ.μ0 := a1.st.back hD
  refine ⟨fun i m H' => m = ds.length - i ∧ i ≤ ds.length ∧ ∃ F' acc μ', LcAt Γ F1 δ σ Da acc μ' H' F' ∧ I i acc μ', ⟨ds.length, by simp, Nat.zero_le _, F1, [], μ1, ⟨Same.refl _, a1.ext (same_upd hD), ⟨[], upd_same, Dps.nil⟩, a1.sx.sub.free hD, fun hm => ?_⟩, h0⟩, ?_⟩
  · obtain ⟨c, hc, e⟩ := List.mem_map.mp hm
    obtain ⟨u, hu⟩ := (a1.sx.cells c hc).there
    rw [e, hD] at hu; cases hu
  rintro i m H' ⟨rfl, hi, F', acc, μ', L, hI⟩
  obtain ⟨hSi, hacc⟩ := hS i acc μ' hi hI
  by_cases hlt : i < ds.length
  · have e : ds[i]? = some ds[i] := List.getElem?_eq_getElem hlt
    have ah := L.at_.here
    obtain ⟨g1, g2⟩ := ok.go (Γ.here L.at_.st) rfl i F' δ μ' σ H' L.sm ah hSi _ e
    refine .inr ⟨g1, fun H2 => ∃ F2 acc2 μ2, LcAt Γ F1 δ σ Da acc2 μ2 H2 F2 ∧ I (i + 1) acc2 μ2, fun H2 ⟨F2, acc2, μ2, L2', q2⟩ => ⟨ds.length - (i + 1), by omega, rfl, hlt, F2, acc2, μ2, L2', q2⟩, fun x H2 y => ?_⟩
    obtain ⟨F2, s2, a2, r2⟩ := g2 x H2 y
    have LL := L.step (σb := σ) (δb := δ) a2.st a2.sx
    intro sB HB C cl fp
    have aB : At (Γ.blk scope sB HB C cl fp F2 μ' H2) F2 (wipeD δ vs) μ' (L2.wipe σ vs) H2 := ⟨Step.refl _ _ _, LL.at_.sx, LL.at_.fr.wipe vs⟩
    refine wg_mono (hb i _ acc μ' e hI sB HB C cl fp F2 μ' H2 F2 (L2.wipe σ vs) H2 x aB r2) fun σ3 H3 ⟨w3, F3, δ3, μ3, s3, a3, q3⟩ => ⟨w3.trans wipe_wipe, ?_⟩
    have L3 := LL.step (σb := σ) (δb := δ) a3.st a3.sx
    intro sB2 HB2 C2 cl2 fp2
    have aC : At (Γ.blk scope sB2 HB2 C2 cl2 fp2 F3 μ3 H3) F3 δ3 μ3 σ3 H3 := ⟨Step.refl _ _ _, a3.sx, a3.fr⟩
    refine eif_run (q3 sB2 HB2 C2 cl2 fp2 F3 μ3 H3) aC fun b H4 ⟨F4, μ4, s4, a4, q4⟩ => ?_
    have L4 := L3.step (σb := σ) (δb := δ) a4.st a4.sx
    cases b with
    | true =>
      rw [if_pos rfl] at q4 ⊢
      intro sB5 HB5 C5 cl5 fp5
      have aE : At (Γ.blk scope sB5 HB5 C5 cl5 fp5 F4 μ4 H4) F4 δ3 μ4 σ3 H4 := ⟨Step.refl _ _ _, a4.sx, a4.fr⟩
      refine we_mono (q4 sB5 HB5 C5 cl5 fp5 F4 μ4 H4 F4 σ3 H4 aE) fun v H5 ⟨F5, r, μ5, s5, a5, r5, q5⟩ => ?_
      have L5 := L4.step (σb := σ) (δb := δ) a5.st a5.sx
      obtain ⟨ws, h1, h2⟩ := L5.ls
      refine ⟨ws, h1, ?_, F5, acc ++ [r], μ5, ⟨L5.sm, L5.at_.updFree h0D L5.f L5.m, ⟨ws ++ [v], upd_same, h2.append (Dps.cons r5 Dps.nil)⟩, L5.f, L5.m⟩, q5⟩
      rw [← h2.length, sizeLine_eq]
      omega
    | false =>
      rw [if_neg Bool.false_ne_true] at q4 ⊢
      exact ⟨F4, acc, μ4, L4, q4⟩
  · have e : i = ds.length := by omega
    subst e
    refine .inl ⟨ok.stop Γ rfl _ F' δ μ' σ H' L.sm L.at_ hSi (Nat.le_refl _), ?_⟩
    obtain ⟨ws, h1, h2⟩ := L.ls
    -- the list is known from now on
    have sF := same_upd (o := HO.lst ws) L.f
    have ah := L.at_
    have a2 : At Γ (upd F' Da (.lst ws)) δ μ' σ H' := by
      refine ⟨⟨ah.st.ext.trans sF, ah.st.keep, fun b u h hn => ?_, ah.st.cell⟩, ⟨fun b u h => ?_, fun c hc => ?_, ah.sx.nd, fun c hc => (ah.sx.cells c hc).mono sF rfl⟩, ah.fr.mono sF⟩
      · by_cases q : b = Da
        · rw [q]; exact h0D
        · rw [upd_ne q] at h; exact ah.st.new b u h hn
      · by_cases q : b = Da
        · rw [q, upd_same] at h; rw [q, ← h]; exact h1
        · rw [upd_ne q] at h; exact ah.sx.sub _ _ h
      · rw [upd_ne (fun e => L.m (by rw [← e]; exact List.mem_map.mpr ⟨c, hc, rfl⟩))]; exact ah.sx.off c hc
    exact ⟨_, .lst acc, μ', s1.trans (L.sm.trans sF), a2, dpl upd_same (h2.mono sF), acc, rfl, hd acc μ' hI⟩
theorem ed_lc {own : List (Str × Nat)} {Q : D → Mu → Prop} (own_ : List (Str × Nat)) (e : own = own_) (hc : Γ.X.calm = true) (hN : Γ.X.N.Nodup) (ok : BlkOk Γ.X.N Γ.X.env.scope scope own) (h : lcd Γ elt tg iter ifs scope (own.map (·.2)) δ μ fun ds μ' => Q (.lst ds) μ')
    (hs : ∀ x, foldedSetIterable iter Γ.X.env x = pure x := by intro _; rfl) : ed Γ (.ListComp elt [⟨tg, iter, ifs, 0⟩] scope pos) δ μ Q := fun F σ H a =>
  we_mono (we_of (pe_lc hc hN pi_wi ok pg_wgB pts_wtB pe_weB hs) (lcd_run h F σ H a)) fun v H' ⟨F', d, μ', s, a', r, ds, e, q⟩ => ⟨F', d, μ', s, a', r, by rw [e]; exact q⟩
/-- name = [..] -/
theorem sd_setLc {own : List (Str × Nat)} {E : En} {i : Nat} {y : Str} {py spos : Pos} (hc : Γ.X.calm = true) (hN : Γ.X.N.Nodup) (hy : Γ.X.N[i]? = some y) (hyl : Γ.X.env.scope.names.lookup y = some .local)
    (hsw : swapsWith (.ListComp elt [⟨tg, iter, ifs, 0⟩] scope pos) (some (.Name y py)) spos.line Γ.X.env = pure true) (ok : BlkOk Γ.X.N Γ.X.env.scope scope own)
    (h : lcd Γ elt tg iter ifs scope (own.map (·.2)) δ μ fun ds μ' => E.nx (δ.set i (some (.lst ds))) μ') (hs : ∀ x, foldedSetIterable iter Γ.X.env x = pure x := by intro _; rfl) :
    sd Γ (.Assign [.Name y py] (.ListComp elt [⟨tg, iter, ifs, 0⟩] scope pos) spos) δ μ E := fun F σ H a => by
  have key := lcd_run h F σ H a
  refine ws_of (ps_setLc (g := wgB Γ.X scope tg) (tt := wtB Γ.X scope ifs) (te := weB Γ.X scope elt) hc hN hy hyl hsw pi_wi ok pg_wgB pts_wtB pe_weB hs) ?_
  have mono : ∀ {Q Q' : VK}, (∀ v H', Q v H' → Q' v H') → tLc (wi Γ.X tg iter) (wgB Γ.X scope tg) (wtB Γ.X scope ifs) (weB Γ.X scope elt) (own.map (·.2)) σ H Q → tLc (wi Γ.X tg iter) (wgB Γ.X scope tg) (wtB Γ.X scope ifs) (weB Γ.X scope elt) (own.map (·.2)) σ H Q' := fun k h =>
    wi_mono h fun J H1 z Da hD => by
      obtain ⟨W, w0, t⟩ := z Da hD
      refine ⟨W, w0, fun i m H' w => ?_⟩
      rcases t i m H' w with ⟨q1, q2⟩ | q
      · exact .inl ⟨q1, k _ _ q2⟩
      · exact .inr q
  exact mono (fun v H' ⟨F', d, μ', s, a', r, ds, e, q⟩ => by subst e; exact ⟨F', _, μ', s, a'.fr_set i r, q⟩) key
end
end PD
/-! PD5: defs, calls, fields, methods, instances. -/
namespace PD
open PySem PySem.Spec PyProof.Rows L2
/-! ### room, in which no repr is under way -/
structure Room (k : Nat) (A : Around) : Prop where
  r : L2.Room k A
  gd : A.guards = some []
section
variable {j k : Nat} {A : Around}
theorem Room.mono (r : Room k A) (h : j ≤ k) : Room j A := ⟨r.r.mono h, r.gd⟩
theorem Room.deeper (r : Room (k + 1) A) (env : Env) : Room k (A.deeper env) := ⟨r.r.deeper env, r.gd⟩
theorem Room.in1 (r : Room (k + 1) A) : Room k A.in1 := ⟨r.r.in1, r.gd⟩
theorem make_guards {C : Addr} {us : List Value} {kw : List (Str × Value)} : (A.under (.builtin "type.__call__" ⟨.ref C :: us, kw⟩)).guards = A.guards := by
  have e : guardIds.contains "type.__call__" = false := by decide +kernel
  have e1 : Code.isGuard (.builtin "type.__call__" ⟨.ref C :: us, kw⟩) = false := e
  have e2 : Code.guards (.builtin "type.__call__" ⟨.ref C :: us, kw⟩) = [] := by
    unfold Code.guards
    rw [e1, if_neg Bool.false_ne_true]
  show pushGuards (Code.guards (.builtin "type.__call__" ⟨.ref C :: us, kw⟩)) A.guards = A.guards
  rw [e2]
  rfl
theorem Room.make (r : Room (k + 1) A) (C : Addr) (us : List Value) (kw : List (Str × Value)) : Room k (A.under (.builtin "type.__call__" ⟨.ref C :: us, kw⟩)) := ⟨r.r.make C us kw, make_guards.trans r.gd⟩
theorem Room.units (r : Room k A) : A.units + 64 < cLine := r.r.units
theorem Room.hd (r : Room k A) : A.handled = none := r.r.hd
theorem Room.dp (r : Room k A) : A.depth + 3 * k + 5 < recursionLimit := r.r.dp
theorem Room.un (r : Room k A) : A.units + 16 * k + 200 < cLine := r.r.un
end
/-! ### what a def promises: b tells whether what it raises has None for its context -/
def CXB : Md → Program → World → CXT
  | some true, P, w => L2N.CX P w
  | some false, P, w => L2.CX P w
  | none, P, w => CXM P w
structure FnOk (P : Program) (w : World) (K : PySem.W.Frag) (mg : Str → Option Value) (base : Heap) (b : Md) (k : Nat) (f : Addr) (fd : FuncData) (ps : List Str) (sp : Sp) : Prop where
  len : ∀ vs H Q E, sp vs H Q E → vs.length = ps.length
  run : ∀ (A : Around) (outer : List Env) (s : Shared) (H : Hp) (args : Args) (us : List Value) (vs : List V) (Q : VK) (E : XK), Room k A → Env0 P w K mg base A outer s H → BindsTo s fd args (ps.zip us) → Vals vs us → sp vs H Q E →
    codeAny (model P w) A (.call (.ref f) args) (CR (CXB b P w) outer P w H s Q E) s
section
variable {P : Program} {w : World} {K : PySem.W.Frag} {mg : Str → Option Value} {base : Heap} {b : Md} {j k : Nat} {f : Addr} {fd : FuncData} {ps : List Str} {sp sp' : Sp}
theorem FnOk.imp (G : FnOk P w K mg base b k f fd ps sp) (h : ∀ vs H Q E, sp' vs H Q E → sp vs H Q E) : FnOk P w K mg base b k f fd ps sp' where
  len := fun vs H Q E q => G.len vs H Q E (h _ _ _ _ q)
  run := fun A outer s H args us vs Q E r e bd v q => G.run A outer s H args us vs Q E r e bd v (h _ _ _ _ q)
/-- a def's body, stepped through in its own context -/
theorem FunD.okG {x qual : Str} {params : Arguments} {body : List Stmt} {scope : Scope} {dvs : List V} {kws : List (Str × V)} {N : List Str} (F : FunD K x qual params body scope dvs kws f fd) (S : FnScope N ps scope) (len : ∀ vs H Q E, sp vs H Q E → vs.length = ps.length)
    (hb : ∀ (cdv : Value) (A : Around) (outer : List Env) (s : Shared) (H : Hp) (vs : List V) (Q : VK) (E : XK), Room k (A.deeper (envOfC qual scope s.heap.objs.size f cdv)) → sp vs H Q E →
      wss (cxOf (CXB b P w) P w K mg base N qual scope f cdv A outer s H E) body { nx := fun _ H' => Q .non H', rt := Q } (L2.start N vs) H) : FnOk P w K mg base b (k + 1) f fd ps sp := by
  obtain ⟨oc, od, dV, kV, doc, pm, an, cdv, ct, osl, rfl, look, code, _, _⟩ := F.ex
  refine ⟨len, fun A outer s H args us vs Q E room e0 bound rel want => ?_⟩
  have kin : K.In s.heap := e0.mod.kin.keeps fun c o e => (e0.bs c o e).1
  have kinds : ∀ y ∈ ps.zip us, scope.names.lookup y.1 = some .local ∨ (scope.names.lookup y.1 = some .cell ∧ ((cellsFrom (s.heap.objs.size + 1) scope.names []).lookup y.1).isSome = true) := by
    rintro ⟨y, u⟩ hy
    exact (S.par y (List.of_mem_zip hy).1).imp id fun q => ⟨q, PySem.W.cellsFrom_some _ _ _ (.inl q)⟩
  refine codeAny_call_function room.r.depth (kin _ _ look) rfl S.co S.gen rfl (PySem.W.codeRec_of kin code) (bound _ _ _ _ (wpAny_newFunctionEnv_cells S.kind kinds fun env ee s1 x => ?_))
  cases ee
  refine ⟨(e0.mod.nolimit.keeps fun c o e => (e0.bs c o e).1).keeps x.toInCall.keep, codeAny_func ?_⟩
  have go := hb cdv A outer s H vs Q E (room.deeper _) want [] s1 (inv_start S room.hd e0 (len _ _ _ _ want) rel x)
  refine wpAny_mono go (fun res s' z => ?_) fun _ _ z => z
  match res, z with
  | .ret u, ⟨v, _, H', J, rv, q⟩ => exact ⟨v, H', J.os, J.bare, J.base, J.hok, rv, q⟩
  | .next, ⟨_, H', J, q⟩ => exact ⟨V.non, H', J.os, J.bare, J.base, J.hok, rfl, q⟩
  | .brk, ⟨_, _, _, q⟩ => exact q.elim
  | .cont, ⟨_, _, _, q⟩ => exact q.elim
end
section
variable {X : Cx} {b : Md} {k : Nat} {f : Addr} {fd : FuncData} {ps : List Str} {sp : Sp} {dvs : List V} {ds : List Value} {E : L2.St → XK} {x : Str} {p pos : Pos} {e : Expr} {es : List Expr} {t : TA}
theorem run_fnSD {pins : List (Addr × Obj)} {σ : L2.St} {H : Hp} {s : Shared} {Q : VK} {us : List Value} {vs : List V} (G : FnOk X.prog X.w X.K X.mg X.base b k f fd ps sp) (hr : Room k X.A) (hb : Binds X.K fd ps ds) (hd : Vals dvs ds) (hx : PassesAt (CXB b X.prog X.w) X σ (E σ))
    (I : Inv X pins σ H s) (r : Vals vs us) (h : sp (vs ++ dvs) H Q (E σ)) : wpAny (model X.prog X.w) X.A (call (.ref f) us) (EP X pins σ Q) X.xe s := by
  have rr := r.append hd
  have hn : (us ++ ds).length = ps.length := rr.length.symm.trans (G.len _ _ _ _ h)
  refine wpAny_call (codeAny_mono (G.run X.A X.stack s H ⟨us, []⟩ _ _ Q (E σ) hr I.env0 (hb s us I.kIn hn) rr h) fun res s' z => ?_)
  match res, z with
  | .error er, z => exact hx pins H s er s' I z
  | .ok (.ret u), z => exact I.after z
theorem pe_callSD (G : FnOk X.prog X.w X.K X.mg X.base b k f fd ps sp) (hr : Room k X.A) (hg : Gl X x) (hm : X.mg x = some (.ref f)) (hk : PySem.W.keepIn X.K (.ref f) = true) (hb : Binds X.K fd ps ds) (hd : Vals dvs ds) (hx : ∀ σ, PassesAt (CXB b X.prog X.w) X σ (E σ))
    (ha : PA X (e :: es) t) (hdb : (x == ("__debug__" : Str)) = false := by decide) (he : starEach (e :: es) X.env = (false, eval e X.env) :: starEach es X.env := by rfl) (hpl : (backTo pos (starEach es X.env)).any (·.1) = false := by rfl) :
    PE X (.Call (.Name x p) (e :: es) [] pos) (tCallSD sp dvs E t) where
  run := fun pins s σ H Q I h => wpAny_Call_Name_kw (ld_glob I hg hm (PySem.W.callWith_K (h₀ := X.base) I.ok.mod.kin hk (thn (ha.run pos pins s σ H _ I h) fun us s1 ⟨vs, H1, I1, r, q⟩ => ⟨I1.kIn, run_fnSD G hr hb hd (hx σ) I1 r q⟩) he hpl) hdb)
end
theorem passAt {b : Md} {X : Cx} {W : WX} (tk : TkB b X W) (σ : L2.St) : PassesAt (CXB b X.prog X.w) X σ (WE W σ) := by
  match b, tk with
  | some true, tk => exact L2N.passAt tk σ
  | some false, tk => exact L2.passAt tk σ
  | none, tk => exact fun _ _ _ e s' I c => tk e s' (XM.of_call I (fun _ _ _ h => h) c)
/-- a def's promise over data: the arguments, the cells, the wanted end, the wanted exception -/
abbrev SpD := List D → Mu → (D → Mu → Prop) → (Value → List Str → List D → Mu → Prop) → Prop
def spOf (K : PySem.W.Frag) (n : Nat) (sp : SpD) : Sp := fun vs H Q E => ∃ F μ ds Qd Ed, Sx K F μ H ∧ Dps K F ds vs ∧ ds.length = n ∧ sp ds μ Qd Ed ∧ (∀ v H' F' μ' d, Step F μ H F' μ' H' → Sx K F' μ' H' → Dp K F' d v → Qd d μ' → Q v H') ∧
  (∀ cls dx H' F' μ' ns xs, Step F μ H F' μ' H' → Sx K F' μ' H' → XdOk K F' dx ns xs → Ed cls ns xs μ' → E cls dx H')
abbrev FnD (b : Md) (P : Program) (w : World) (K : PySem.W.Frag) (mg : Str → Option Value) (base : Heap) (k : Nat) (f : Addr) (fd : FuncData) (ps : List Str) (sp : SpD) : Prop := FnOk P w K mg base b k f fd ps (spOf K ps.length sp)
theorem FnD.imp {b : Md} {P : Program} {w : World} {K : PySem.W.Frag} {mg : Str → Option Value} {base : Heap} {k : Nat} {f : Addr} {fd : FuncData} {ps : List Str} {sp sp' : SpD} (F : FnD b P w K mg base k f fd ps sp) (h : ∀ ds μ Q E, sp' ds μ Q E → sp ds μ Q E) : FnD b P w K mg base k f fd ps sp' :=
  FnOk.imp F fun vs H Q E ⟨F', μ, ds, Qd, Ed, a, b, c, d, e⟩ => ⟨F', μ, ds, Qd, Ed, a, b, c, h _ _ _ _ d, e⟩
/-! ### a def's body -/
section
variable {P : Program} {w : World} {K : PySem.W.Frag} {mg : Str → Option Value} {base : Heap}
theorem tkB_of (b : Md) {N : List Str} {qual : Str} {scope : Scope} {f : Addr} {cdv : Value} {A : Around} {outer : List Env} {s : Shared} {H : Hp} {E : XK} : TkB b (cxOf (CXB b P w) P w K mg base N qual scope f cdv A outer s H E) (fun cls d _ H' => E cls d H') := by
  match b with
  | some true => exact L2N.takes_of (X := cxOf (L2N.CX P w) P w K mg base N qual scope f cdv A outer s H E) rfl rfl rfl rfl
  | some false => exact L2.takes_of (X := cxOf (L2.CX P w) P w K mg base N qual scope f cdv A outer s H E) rfl rfl rfl rfl
  | none => exact takesM_of (X := cxOf (CXM P w) P w K mg base N qual scope f cdv A outer s H E) rfl rfl rfl rfl
/-- the context of a def's body -/
@[reducible] def mkCt (b : Md) (P : Program) (w : World) (K : PySem.W.Frag) (mg : Str → Option Value) (base : Heap) (N : List Str) (qual : Str) (scope : Scope) (f : Addr) (cdv : Value) (A : Around) (outer : List Env) (s : Shared) (H : Hp) (F : Hp) (μ : Mu) (Ed : Value → List Str → List D → Mu → Prop) : Ct :=
  ⟨cxOf (CXB b P w) P w K mg base N qual scope f cdv A outer s H (fun cls dx H' => ∃ F' μ' ns xs, Step F μ H F' μ' H' ∧ Sx K F' μ' H' ∧ XdOk K F' dx ns xs ∧ Ed cls ns xs μ'), F, μ, H, fun cls ns xs _ μ' => Ed cls ns xs μ', b,
    (tkB_of b).imp fun c d σ H' h => by
      obtain ⟨F', μ', δ, ns, ds, s1, s2, _, x, z⟩ := h
      exact ⟨F', μ', ns, ds, s1, s2, x, z⟩,
    passes_of (X := cxOf (CXB b P w) P w K mg base N qual scope f cdv A outer s H (fun cls dx H' => ∃ F' μ' ns xs, Step F μ H F' μ' H' ∧ Sx K F' μ' H' ∧ XdOk K F' dx ns xs ∧ Ed cls ns xs μ')) rfl⟩
def startD (N : List Str) (ds : List D) : Dl := ds.map some ++ List.replicate (N.length - ds.length) none
theorem fr_start {F : Hp} {N : List Str} {ds : List D} {vs : List V} (r : Dps K F ds vs) : Fr K F (L2.start N vs) (startD N ds) := by
  refine ⟨?_, fun i d h => ?_⟩
  · unfold L2.start startD
    simp only [List.length_append, List.length_map, List.length_replicate, r.length]
  · unfold startD at h
    unfold L2.start
    by_cases hi : i < ds.length
    · rw [List.getElem?_append_left (by rw [List.length_map]; exact hi), List.getElem?_map] at h
      rw [List.getElem?_append_left (by rw [List.length_map, ← r.length]; exact hi), List.getElem?_map]
      cases e : ds[i]? with
      | none => rw [e] at h; cases h
      | some d' =>
        rw [e] at h
        have := Option.some.inj (Option.some.inj h)
        subst this
        obtain ⟨v, e2, r2⟩ := r.get e
        rw [e2]
        exact ⟨v, rfl, r2⟩
    · rw [List.getElem?_append_right (by rw [List.length_map]; omega), List.getElem?_replicate] at h
      split at h <;> cases h
/-- THE RULE of a def -/
theorem fnD_of {b : Md} {x qual : Str} {params : Arguments} {body : List Stmt} {scope : Scope} {dvs : List V} {kws : List (Str × V)} {f : Addr} {fd : FuncData} {N ps : List Str} {k : Nat} {sp : SpD} (F : FunD K x qual params body scope dvs kws f fd) (S : FnScope N ps scope)
    (hb : ∀ (cdv : Value) (A : Around) (outer : List Env) (s : Shared) (H F : Hp) (μ : Mu) (ds : List D) (Qd : D → Mu → Prop) (Ed : Value → List Str → List D → Mu → Prop), Room k (mkCt b P w K mg base N qual scope f cdv A outer s H F μ Ed).X.A → ds.length = ps.length → sp ds μ Qd Ed →
      sds (mkCt b P w K mg base N qual scope f cdv A outer s H F μ Ed) body (startD N ds) μ { nx := fun _ μ' => Qd .non μ', rt := Qd }) : FnD b P w K mg base (k + 1) f fd ps sp := by
  refine FunD.okG F S (fun vs H Q E h => ?_) (fun cdv A outer s H vs Q E hr h => ?_)
  · obtain ⟨F', μ, ds, Qd, Ed, _, r, l, _⟩ := h
    rw [← l, r.length]
  · obtain ⟨F', μ, ds, Qd, Ed, sx, r, l, q, kq, ke⟩ := h
    intro pins s' I
    -- the wish E is weaker than ours
    have z := hb cdv A outer s H F' μ ds Qd Ed hr l q F' (L2.start N vs) H ⟨Step.refl _ _ _, sx, fr_start r⟩ pins s'
    have I' : Inv (mkCt b P w K mg base N qual scope f cdv A outer s H F' μ Ed).X pins (L2.start N vs) H s' := I.wish _
    refine wpAny_mono (z I') (fun fl s2 hq => ?_) (fun e s2 he => ?_)
    · have hq' : SP (cxOf (CXB b P w) P w K mg base N qual scope f cdv A outer s H E) pins (En.to { nx := fun _ μ' => Qd .non μ', rt := Qd } (mkCt b P w K mg base N qual scope f cdv A outer s H F' μ Ed) F') fl s2 := by
        cases fl with
        | next => obtain ⟨σ', H', I2, q⟩ := hq; exact ⟨σ', H', I2.wish _, q⟩
        | brk => obtain ⟨σ', H', I2, q⟩ := hq; exact ⟨σ', H', I2.wish _, q⟩
        | cont => obtain ⟨σ', H', I2, q⟩ := hq; exact ⟨σ', H', I2.wish _, q⟩
        | ret u => obtain ⟨v, σ', H', I2, rr, q⟩ := hq; exact ⟨v, σ', H', I2.wish _, rr, q⟩
      refine SP_mono ⟨fun σ' H' hh => ?_, fun v H' hh => ?_, fun σ' H' hh => ?_, fun σ' H' hh => ?_⟩ hq'
      · obtain ⟨F2, δ', μ', _, a, q⟩ := hh
        exact kq .non H' F2 μ' .non a.st a.sx dpn q
      · obtain ⟨F2, d, μ', _, st, sx2, rd, q⟩ := hh
        exact kq v H' F2 μ' d st sx2 rd q
      · obtain ⟨_, _, _, _, _, q⟩ := hh; exact q.elim
      · obtain ⟨_, _, _, _, _, q⟩ := hh; exact q.elim
    · have cm : ∀ {e' : Value} {s3 : Shared}, CXB b P w outer H s (fun cls dx H' => ∃ F2 μ' ns xs, Step F' μ H F2 μ' H' ∧ Sx K F2 μ' H' ∧ XdOk K F2 dx ns xs ∧ Ed cls ns xs μ') e' s3 → CXB b P w outer H s E e' s3 := fun {e' s3} h => by
        rcases b with _ | _ | _ <;>
        (obtain ⟨a, B, H', cls, d, h1, h2, h3, h4, h5, h6, h7, h8⟩ := h
         obtain ⟨F2, μ', ns, xs, y1, y2, y3, y4⟩ := h8
         exact ⟨a, B, H', cls, d, h1, h2, h3, h4, h5, h6, h7, ke _ _ _ F2 μ' ns xs y1 y2 y3 y4⟩)
      exact wpAny_mono (show wpAny (model P w) (A.deeper (envOfC qual scope s.heap.objs.size f cdv)) (leaving (envOfC qual scope s.heap.objs.size f cdv) e) (fun _ s'' => _) (fun e' s'' => _) s2 from he) (fun _ s3 h => cm h) fun e' s3 h => cm h
end
/-! ### calls of defs -/
section
variable {Γ : Ct} {δ : Dl} {μ : Mu} {Q : D → Mu → Prop} {pos : Pos}
/-- what a call wants of a promise -/
theorem spOf_at {K : PySem.W.Frag} {n : Nat} {sp : SpD} {F H : Hp} {σ : L2.St} {vs : List V} {ds : List D} (hK : Γ.X.K = K) (a : At Γ F δ μ σ H) (r : Dps K F ds vs) (hl : ds.length = n) (h : sp ds μ Q fun cls ns xs μ' => Γ.W cls ns xs δ μ') :
    spOf K n sp vs H (PostE Γ F δ σ Q) (fun cls dx H' => WofD Γ.X.K Γ.F0 Γ.μ0 Γ.H0 Γ.W cls dx σ H') := by
  subst hK
  exact ⟨F, μ, ds, Q, _, a.sx, r, hl, h, fun v H' F' μ' d st sx rd q => ⟨F', d, μ', st.ext, ⟨a.st.trans st, sx, a.fr.mono st.ext⟩, rd, q⟩,
    fun cls dx H' F' μ' ns xs st sx x w => ⟨F', μ', δ, ns, xs, a.st.trans st, sx, a.fr.mono st.ext, x, w⟩⟩
variable {k : Nat} {f C : Addr} {fd : FuncData} {ps : List Str} {sp : SpD} {dvs : List V} {dds : List D} {dus : List Value} {x m : Str} {p apos : Pos} {e o : Expr} {es : List Expr}
/-- the defaults as data -/
def DfD (K : PySem.W.Frag) (dds : List D) (dvs : List V) : Prop := ∀ F, Dps K F dds dvs
theorem DfD.nil {K : PySem.W.Frag} : DfD K [] [] := fun _ => Dps.nil
theorem ed_call (G : FnD Γ.nn Γ.X.prog Γ.X.w Γ.X.K Γ.X.mg Γ.X.base k f fd ps sp) (hr : Room k Γ.X.A) (hm : Γ.X.mg x = some (.ref f)) (hk : PySem.W.keepIn Γ.X.K (.ref f) = true) (hb : Binds Γ.X.K fd ps dus) (hd : Vals dvs dus) (hdd : DfD Γ.X.K dds dvs)
    (h : ea Γ (e :: es) δ μ fun ds μ1 => (ds ++ dds).length = ps.length ∧ sp (ds ++ dds) μ1 Q fun cls ns xs μ' => Γ.W cls ns xs δ μ') (hg : Gl Γ.X x := by rfl)
    (hdb : (x == ("__debug__" : Str)) = false := by decide +kernel) (he : starEach (e :: es) Γ.X.env = (false, eval e Γ.X.env) :: starEach es Γ.X.env := by rfl) (hpl : (backTo pos (starEach es Γ.X.env)).any (·.1) = false := by rfl) :
    ed Γ (.Call (.Name x p) (e :: es) [] pos) δ μ Q := fun F σ H a =>
  we_of (pe_callSD (E := fun σ cls dx H' => WofD Γ.X.K Γ.F0 Γ.μ0 Γ.H0 Γ.W cls dx σ H') G hr hg hm hk hb hd (fun σ => passAt Γ.tk σ) pa_wa hdb he hpl) (wa_mono (h F σ H a) fun vs H1 ⟨F1, ds, μ1, s1, a1, r1, hl, q⟩ => by
    obtain ⟨F2, μ2, ds2, Qd, Ed, b1, b2, b3, b4, b5, b6⟩ := spOf_at (K := Γ.X.K) (n := ps.length) (sp := sp) rfl a1 (r1.append (hdd F1)) hl q
    exact ⟨F2, μ2, ds2, Qd, Ed, b1, b2, b3, b4, fun v H' F' μ' d c1 c2 c3 c4 => (b5 v H' F' μ' d c1 c2 c3 c4).up s1, b6⟩)
theorem pe_call0S {b : Md} {X : Cx} {E : L2.St → XK} {sp : Sp} (F : FnOk X.prog X.w X.K X.mg X.base b k f fd ps sp) (hr : Room k X.A) (hg : Gl X x) (hm : X.mg x = some (.ref f)) (hk : PySem.W.keepIn X.K (.ref f) = true) (hb : Binds X.K fd ps dus) (hd : Vals dvs dus) (hx : ∀ σ, PassesAt (CXB b X.prog X.w) X σ (E σ))
    (hdb : (x == ("__debug__" : Str)) = false := by decide +kernel) : PE X (.Call (.Name x p) [] [] pos) (tCallSD sp dvs E tNil) := by
  refine ⟨fun pins s σ H Q I h => ?_⟩
  refine wpAny_Call_Name_kw (ld_glob I hg hm ?_ hdb)
  exact PySem.W.callWith_K0 I.kIn hk (run_fnSD (us := []) F hr hb hd (hx σ) I .nil h)
theorem ed_call0 (G : FnD Γ.nn Γ.X.prog Γ.X.w Γ.X.K Γ.X.mg Γ.X.base k f fd ps sp) (hr : Room k Γ.X.A) (hm : Γ.X.mg x = some (.ref f)) (hk : PySem.W.keepIn Γ.X.K (.ref f) = true) (hb : Binds Γ.X.K fd ps dus) (hd : Vals dvs dus) (hdd : DfD Γ.X.K dds dvs)
    (h : dds.length = ps.length ∧ sp dds μ Q fun cls ns xs μ' => Γ.W cls ns xs δ μ') (hg : Gl Γ.X x := by rfl) (hdb : (x == ("__debug__" : Str)) = false := by decide +kernel) : ed Γ (.Call (.Name x p) [] [] pos) δ μ Q := fun F σ H a =>
  we_of (pe_call0S (E := fun σ cls dx H' => WofD Γ.X.K Γ.F0 Γ.μ0 Γ.H0 Γ.W cls dx σ H') G hr hg hm hk hb hd (fun σ => passAt Γ.tk σ) hdb) (by
    show spOf Γ.X.K ps.length sp ([] ++ dvs) H _ _
    rw [List.nil_append]
    exact spOf_at (K := Γ.X.K) (n := ps.length) (sp := sp) rfl a (hdd F) h.1 h.2)
/-! ### fields -/
/-- an instance's field over data: known or owned -/
def FldD (C : Addr) (f : Str) (x : D) (μ : Mu) (d : D) : Prop := match x with
  | .obj C' ns ds => C' = C ∧ (ns.zip ds).lookup f = some d
  | .ref p => ∃ dx ns ds, (p, Cell.ins C dx ns ds) ∈ μ ∧ (ns.zip ds).lookup f = some d
  | _ => False
theorem lookup_zip {K : PySem.W.Frag} {F : Hp} {f : Str} {d : D} : ∀ {ds : List D} {gs : List (Str × V)}, Dps K F ds (gs.map (·.2)) → ((gs.map (·.1)).zip ds).lookup f = some d → ∃ v, gs.lookup f = some v ∧ Dp K F d v
  | [], gs, r, h => by
    have e := r.unnil
    cases gs with
    | nil => cases h
    | cons g gs => cases e
  | d' :: ds, gs, r, h => by
    obtain ⟨v, ws, e, r1, r2⟩ := r.uncons
    cases gs with
    | nil => cases e
    | cons g gs =>
      obtain ⟨n, v'⟩ := g
      have e1 : v' = v := (List.cons.inj e).1
      have e2 : gs.map (·.2) = ws := (List.cons.inj e).2
      subst e1
      rw [← e2] at r2
      have h' : (match f == n with | true => some d' | false => ((gs.map (·.1)).zip ds).lookup f) = some d := h
      show ∃ v, (match f == n with | true => some v' | false => gs.lookup f) = some v ∧ Dp K F d v
      cases q : f == n with
      | true => rw [q] at h'; rw [← Option.some.inj h']; exact ⟨v', rfl, r1⟩
      | false => rw [q] at h'; exact lookup_zip r2 h'
theorem fldD_run {F H : Hp} {σ : L2.St} {f : Str} {x d : D} {v : V} (a : At Γ F δ μ σ H) (r : Dp Γ.X.K F x v) (h : FldD C f x μ d) : ∃ p dx gs u, v = .ref p ∧ H p = some (.ins C dx gs) ∧ gs.lookup f = some u ∧ Dp Γ.X.K F d u := by
  cases x with
  | obj C' ns ds =>
    obtain ⟨rfl, h⟩ := h
    rw [Dp] at r
    obtain ⟨p, dx, gs, rfl, h1, rfl, h3⟩ := r
    obtain ⟨u, e, ru⟩ := lookup_zip h3 h
    exact ⟨p, dx, gs, u, rfl, a.sx.sub _ _ h1, e, ru⟩
  | ref p =>
    rw [dpR r]
    obtain ⟨dx, ns, ds, hm, h⟩ := h
    obtain ⟨gs, h1, h2, h3⟩ := a.sx.cells _ hm
    have h2 : gs.map (·.1) = ns := h2
    subst h2
    obtain ⟨u, e, ru⟩ := lookup_zip h3 h
    exact ⟨p, dx, gs, u, rfl, h1, e, ru⟩
  | _ => exact h.elim
theorem ed_fld {fl : Str} (c : Cls Γ.X.K C) (na : NoAttr Γ.X.K C fl) (h : ed Γ e δ μ fun x μ1 => ∃ d, FldD C fl x μ1 d ∧ Q d μ1) (hb : attributeBase e fl Γ.X.env (eval e Γ.X.env) = eval e Γ.X.env := by rfl) : ed Γ (.Attribute e fl pos) δ μ Q := fun F σ H a =>
  we_of (pe_fld pe_we hb) (we_mono (h F σ H a) fun v H1 ⟨F1, x, μ1, s1, a1, r1, d, hf, q⟩ => by
    obtain ⟨p, dx, gs, u, rfl, h1, h2, h3⟩ := fldD_run a1 r1 hf
    exact ⟨p, C, dx, gs, u, rfl, h1, c, na, h2, F1, d, μ1, s1, a1, h3, q⟩)
/-- a class's constant through an instance, a method: what is known of the instance -/
def InsD (C : Addr) (x : D) (μ : Mu) (m : Str) : Prop := match x with
  | .obj C' ns _ => C' = C ∧ m ∉ ns
  | .ref p => ∃ dx ns ds, (p, Cell.ins C dx ns ds) ∈ μ ∧ m ∉ ns
  | _ => False
theorem lookup_none {m : Str} : ∀ {gs : List (Str × V)}, m ∉ gs.map (·.1) → gs.lookup m = none
  | [], _ => rfl
  | (n, v) :: gs, h => by
    have h1 : m ≠ n := fun e => h (by rw [e]; exact List.mem_cons_self)
    have h2 : (m == n) = false := by simpa using h1
    show (match m == n with | true => some v | false => gs.lookup m) = none
    rw [h2]
    exact lookup_none fun z => h (List.mem_cons_of_mem _ z)
theorem insD_run {F H : Hp} {σ : L2.St} {x : D} {v : V} (a : At Γ F δ μ σ H) (r : Dp Γ.X.K F x v) (h : InsD C x μ m) : ∃ p dx gs, v = .ref p ∧ H p = some (.ins C dx gs) ∧ gs.lookup m = none := by
  cases x with
  | obj C' ns ds =>
    obtain ⟨rfl, h⟩ := h
    rw [Dp] at r
    obtain ⟨p, dx, gs, rfl, h1, rfl, h3⟩ := r
    exact ⟨p, dx, gs, rfl, a.sx.sub _ _ h1, lookup_none h⟩
  | ref p =>
    rw [dpR r]
    obtain ⟨dx, ns, ds, hm, h⟩ := h
    obtain ⟨gs, h1, h2, h3⟩ := a.sx.cells _ hm
    have h2 : gs.map (·.1) = ns := h2
    subst h2
    exact ⟨p, dx, gs, rfl, h1, lookup_none h⟩
  | _ => exact h.elim
theorem pe_methS {b : Md} {X : Cx} {E : L2.St → XK} {sp : Sp} {ta : TE} {t : TA} {pl : Sem Bool} (he : PE X o ta) (c : Cls X.K C) (hm : Meth X.K C m f) (F : FnOk X.prog X.w X.K X.mg X.base b k f fd ps sp) (hr : Room k X.A) (hb : Binds X.K fd ps dus) (hd : Vals dvs dus) (hx : ∀ σ, PassesAt (CXB b X.prog X.w) X σ (E σ)) (ha : PA X (e :: es) t)
    (hst : starEach (e :: es) X.env = (false, eval e X.env) :: starEach es X.env := by rfl) (hpl : (backTo pos (starEach es X.env)).any (·.1) = false := by rfl)
    (ht : eval (.Call (.Attribute o m apos) (e :: es) [] pos) X.env = (do
      let ov ← eval o X.env
      standAt apos.atName
      let (f, first) ← holding [ov] (getMethod ov m pl)
      callWith pos f first (backTo pos (starEach (e :: es) X.env)) (backToKw pos (keywordEach [] X.env))) := by rfl) :
    PE X (.Call (.Attribute o m apos) (e :: es) [] pos) (fun σ H Q => ta σ H fun x H1 => ∃ a dx fs, x = .ref a ∧ H1 a = some (.ins C dx fs) ∧ fs.lookup m = none ∧ t σ H1 fun vs H2 => sp (x :: (vs ++ dvs)) H2 Q (E σ)) := by
  refine ⟨fun pins s σ H Q I h => ?_⟩
  refine PySem.W.methodCall_KW (pl := pl) (thn (he.run pins s σ H _ I h) fun u s1 ⟨x, H1, I1, rx, a, dx, fs, ex, ea, l, q⟩ => ?_) ht
  subst ex
  obtain rfl : u = Value.ref a := rx
  refine getmeth_ok I1 ea c hm l ?_
  refine PySem.W.callWith_K (first := [.ref a]) (h₀ := X.base) I.ok.mod.kin hm.kp (thn (ha.run pos pins s1 σ H1 _ I1 q) fun us s2 ⟨vs, H2, I2, r, q2⟩ => ⟨I2.kIn, ?_⟩) hst hpl
  exact run_fnSD (us := .ref a :: us) (vs := .ref a :: vs) F hr hb hd (hx σ) I2 (.cons rfl r) q2
/-- o.m(e, ..) -/
theorem ed_meth {pl : Sem Bool} (c : Cls Γ.X.K C) (hm : Meth Γ.X.K C m f) (G : FnD Γ.nn Γ.X.prog Γ.X.w Γ.X.K Γ.X.mg Γ.X.base k f fd ps sp) (hr : Room k Γ.X.A) (hb : Binds Γ.X.K fd ps dus) (hd : Vals dvs dus) (hdd : DfD Γ.X.K dds dvs)
    (h : ed Γ o δ μ fun x μ1 => InsD C x μ1 m ∧ ea Γ (e :: es) δ μ1 fun ds μ2 => (x :: (ds ++ dds)).length = ps.length ∧ sp (x :: (ds ++ dds)) μ2 Q fun cls ns xs μ' => Γ.W cls ns xs δ μ')
    (hst : starEach (e :: es) Γ.X.env = (false, eval e Γ.X.env) :: starEach es Γ.X.env := by rfl) (hpl : (backTo pos (starEach es Γ.X.env)).any (·.1) = false := by rfl)
    (ht : eval (.Call (.Attribute o m apos) (e :: es) [] pos) Γ.X.env = (do
      let ov ← eval o Γ.X.env
      standAt apos.atName
      let (f, first) ← holding [ov] (getMethod ov m pl)
      callWith pos f first (backTo pos (starEach (e :: es) Γ.X.env)) (backToKw pos (keywordEach [] Γ.X.env))) := by rfl) : ed Γ (.Call (.Attribute o m apos) (e :: es) [] pos) δ μ Q := fun F σ H a =>
  we_of (pe_methS (E := fun σ cls dx H' => WofD Γ.X.K Γ.F0 Γ.μ0 Γ.H0 Γ.W cls dx σ H') pe_we c hm G hr hb hd (fun σ => passAt Γ.tk σ) pa_wa hst hpl ht) (we_mono (h F σ H a) fun v H1 ⟨F1, x, μ1, s1, a1, r1, hi, q1⟩ => by
    obtain ⟨p, dx, gs, rfl, h1, h2⟩ := insD_run a1 r1 hi
    refine ⟨p, dx, gs, rfl, h1, h2, wa_mono (q1 F1 σ H1 a1) fun vs H2 ⟨F2, ds, μ2, s2, a2, r2, hl, q⟩ => ?_⟩
    obtain ⟨F3, μ3, ds2, Qd, Ed, b1, b2, b3, b4, b5, b6⟩ := spOf_at (K := Γ.X.K) (n := ps.length) (sp := sp) rfl a2 (Dps.cons (r1.mono s2) (r2.append (hdd F2))) hl q
    exact ⟨F3, μ3, ds2, Qd, Ed, b1, b2, b3, b4, fun v H' F' μ' d c1 c2 c3 c4 => (b5 v H' F' μ' d c1 c2 c3 c4).up (s1.trans s2), b6⟩)
/-! ### a field of an owned instance is stored -/
def putD (f : Str) (d : D) : List Str → List D → List Str × List D
  | n :: ns, e :: es => if n = f then (n :: ns, d :: es) else (n :: (putD f d ns es).1, e :: (putD f d ns es).2)
  | _, _ => ([f], [d])
theorem putD_ok {K : PySem.W.Frag} {F : Hp} {f : Str} {d : D} {v : V} (rv : Dp K F d v) : ∀ {gs : List (Str × V)} {ds : List D}, Dps K F ds (gs.map (·.2)) → (putF f v gs).map (·.1) = (putD f d (gs.map (·.1)) ds).1 ∧ Dps K F (putD f d (gs.map (·.1)) ds).2 ((putF f v gs).map (·.2))
  | [], ds, r => by
    cases ds with
    | nil => exact ⟨rfl, Dps.cons rv Dps.nil⟩
    | cons d' ds => obtain ⟨_, _, e, _⟩ := r.uncons; cases e
  | (n, u) :: gs, ds, r => by
    cases ds with
    | nil => cases r.unnil
    | cons d' ds =>
      obtain ⟨u', ws, e, r1, r2⟩ := r.uncons
      have e1 : u = u' := (List.cons.inj e).1
      have e2 : gs.map (·.2) = ws := (List.cons.inj e).2
      subst e1
      rw [← e2] at r2
      obtain ⟨h1, h2⟩ := putD_ok rv r2
      show ((if n = f then (n, v) :: gs else (n, u) :: putF f v gs).map (·.1)) = (if n = f then (n :: gs.map (·.1), d :: ds) else (n :: (putD f d (gs.map (·.1)) ds).1, d' :: (putD f d (gs.map (·.1)) ds).2)).1 ∧ Dps K F (if n = f then (n :: gs.map (·.1), d :: ds) else (n :: (putD f d (gs.map (·.1)) ds).1, d' :: (putD f d (gs.map (·.1)) ds).2)).2 ((if n = f then (n, v) :: gs else (n, u) :: putF f v gs).map (·.2))
      by_cases q : n = f
      · simp only [if_pos q]
        exact ⟨rfl, Dps.cons rv r2⟩
      · simp only [if_neg q]
        refine ⟨?_, Dps.cons r1 h2⟩
        rw [List.map_cons, h1]
theorem sd_fld {value : Expr} {E : En} {fl : Str} {pos' : Pos} (c : Cls Γ.X.K C) (na : NoAttr Γ.X.K C fl) (h : ed Γ value δ μ fun d μ1 => ed Γ o δ μ1 fun x μ2 => ∃ p dx ns ds μa μb, x = .ref p ∧ μ2 = μa ++ (p, .ins C dx ns ds) :: μb ∧ ns.length < 1000 ∧ E.nx δ (μa ++ (p, .ins C dx (putD fl d ns ds).1 (putD fl d ns ds).2) :: μb))
    (hs : swapsWith value (some (.Attribute o fl pos')) pos.line Γ.X.env = pure false := by rfl) : sd Γ (.Assign [.Attribute o fl pos'] value pos) δ μ E := fun F σ H a =>
  ws_of (ps_fld pe_we pe_we hs) (we_mono (h F σ H a) fun v H1 ⟨F1, d, μ1, s1, a1, r1, q1⟩ => we_mono (q1 F1 σ H1 a1) fun u H2 ⟨F2, x, μ2, s2, a2, r2, p, dx, ns, ds, μa, μb, e1, e2, hl, q⟩ => by
    subst e1 e2
    rw [dpR r2]
    obtain ⟨gs, h1, h2, h3⟩ := a2.sx.cells (p, .ins C dx ns ds) mem_mid
    have h2 : gs.map (·.1) = ns := h2
    subst h2
    obtain ⟨g1, g2⟩ := putD_ok (f := fl) (r1.mono s2) h3
    exact ⟨p, C, dx, gs, rfl, h1, c, na, by rw [List.length_map] at hl; exact hl, F2, δ, _, s1.trans s2, a2.put (c' := .ins C dx _ _) ⟨_, upd_same, g1, g2⟩, q⟩)
end
end PD
/-! PD6: what the top has written, by names; packages of calls; the end of a law. -/
namespace PD
open PySem PySem.Spec PyProof.Rows L2
/-- what is known of the top -/
structure TX (fa : List He.Fa) (fn : List He.DefD) (ex : PySem.W.Frag → Bool) (K : PySem.W.Frag) (mg : Str → Option Value) : Prop where
  glo : ∀ x, He.Fa.glo x ∈ fa → mg x = some (.ref (He.ga K x))
  free : ∀ x, He.Fa.free x ∈ fa → mg x = none
  fact : ∀ f ∈ fa, f.ok K = true
  defs : ∀ d ∈ fn, ∃ fd, FunD K d.name d.qual d.params d.body d.scope (d.dvs K) (d.kws K) (He.fAd K d.at_) fd
  more : ex K = true
section
variable {fa : List He.Fa} {fn : List He.DefD} {ex : PySem.W.Frag → Bool} {K : PySem.W.Frag} {mg : Str → Option Value}
theorem TX.g (T : TX fa fn ex K mg) (i : Nat) {x : Str} (h : fa[i]? = some (.glo x) := by rfl) : mg x = some (.ref (He.ga K x)) := T.glo x (List.mem_of_getElem? h)
theorem TX.f (T : TX fa fn ex K mg) (i : Nat) {x : Str} (h : fa[i]? = some (.free x) := by rfl) : mg x = none := T.free x (List.mem_of_getElem? h)
theorem TX.a (T : TX fa fn ex K mg) (i : Nat) {f : He.Fa} (h : fa[i]? = some f := by rfl) : f.ok K = true := T.fact f (List.mem_of_getElem? h)
theorem TX.d (T : TX fa fn ex K mg) (i : Nat) {d : He.DefD} (h : fn[i]? = some d := by rfl) : ∃ fd, FunD K d.name d.qual d.params d.body d.scope (d.dvs K) (d.kws K) (He.fAd K d.at_) fd := T.defs d (List.mem_of_getElem? h)
theorem tx_of {ts : List He.Tab} {tf : List He.Defn} {w : World} {h h' : Heap} (X : K.In h) (G : h.Ns mainGlobals mg) (c : He.SaysX fa fn ts tf ex w h' K) : TX fa fn ex K mg where
  glo := fun x hx => He.glo_ok X G (c.t.d.facts hx)
  free := fun x hx => He.free_ok X G (c.t.d.facts hx)
  fact := fun f hf => c.t.d.facts hf
  defs := fun d hd => c.t.d.defs hd
  more := c.more
end
/-- a def that may be called: dds the defaults that fill up -/
structure CallX (b : Md) (P : Program) (w : World) (K : PySem.W.Frag) (mg : Str → Option Value) (base : Heap) (k : Nat) (f : Addr) (n : Nat) (dds : List D) (sp : SpD) : Prop where
  ex : ∃ (fd : FuncData) (ps : List Str) (dvs : List V) (dus : List Value), ps.length = n ∧ Binds K fd ps dus ∧ Vals dvs dus ∧ DfD K dds dvs ∧ FnD b P w K mg base k f fd ps sp
  kp : PySem.W.keepIn K (.ref f) = true
/-- a def that lets out only what has None for its context -/
structure CallD (P : Program) (w : World) (K : PySem.W.Frag) (mg : Str → Option Value) (base : Heap) (k : Nat) (f : Addr) (n : Nat) (dds : List D) (sp : SpD) : Prop where
  at_ : ∀ b, CallX b P w K mg base k f n dds sp
/-- a def that may let out any exception -/
structure CallF (P : Program) (w : World) (K : PySem.W.Frag) (mg : Str → Option Value) (base : Heap) (k : Nat) (f : Addr) (n : Nat) (dds : List D) (sp : SpD) : Prop where
  x : CallX false P w K mg base k f n dds sp
theorem CallF.at_ {P : Program} {w : World} {K : PySem.W.Frag} {mg : Str → Option Value} {base : Heap} {k : Nat} {f : Addr} {n : Nat} {dds : List D} {sp : SpD} (c : CallF P w K mg base k f n dds sp) (b : Md) (h : b = false := by rfl) : CallX b P w K mg base k f n dds sp := by
  subst h; exact c.x
section
variable {P : Program} {w : World} {K : PySem.W.Frag} {mg : Str → Option Value} {base : Heap} {k : Nat} {f : Addr} {sp : SpD} {x qual : Str} {params : Arguments} {body : List Stmt} {scope : Scope} {kws : List (Str × V)} {fd : FuncData} {ps : List Str}
theorem CallD.mk0 (F : FunD K x qual params body scope [] kws f fd)
    (h : ∀ (kV doc pm : Value) (an : Option Addr) (cdv ct : Value) (us : List Value), us.length = ps.length → bindArgs (PySem.W.fnOf x qual params body scope .none kV doc pm an cdv ct) ⟨us, []⟩ = pure (ps.zip us)) (G : ∀ {b : Md}, FnD b P w K mg base k f fd ps sp) : CallD P w K mg base k f ps.length [] sp :=
  ⟨fun b => ⟨⟨fd, ps, [], [], rfl, F.bindsN h, .nil, DfD.nil, G⟩, F.kp⟩⟩
theorem CallF.mk0 (F : FunD K x qual params body scope [] kws f fd)
    (h : ∀ (kV doc pm : Value) (an : Option Addr) (cdv ct : Value) (us : List Value), us.length = ps.length → bindArgs (PySem.W.fnOf x qual params body scope .none kV doc pm an cdv ct) ⟨us, []⟩ = pure (ps.zip us)) (G : FnD false P w K mg base k f fd ps sp) : CallF P w K mg base k f ps.length [] sp :=
  ⟨⟨⟨fd, ps, [], [], rfl, F.bindsN h, .nil, DfD.nil, G⟩, F.kp⟩⟩
end
section
variable {Γ : Ct} {δ : Dl} {μ : Mu} {Q : D → Mu → Prop} {pos : Pos} {k j n : Nat} {f C : Addr} {sp : SpD} {dds : List D} {x m : Str} {p apos : Pos} {e o : Expr} {es : List Expr}
theorem ed_callC (Cd : CallX Γ.nn Γ.X.prog Γ.X.w Γ.X.K Γ.X.mg Γ.X.base k f n dds sp) (hr : Room j Γ.X.A) (hkj : k ≤ j) (hm : Γ.X.mg x = some (.ref f)) (h : ea Γ (e :: es) δ μ fun ds μ1 => (ds ++ dds).length = n ∧ sp (ds ++ dds) μ1 Q fun cls ns xs μ' => Γ.W cls ns xs δ μ') (hg : Gl Γ.X x := by rfl)
    (hdb : (x == ("__debug__" : Str)) = false := by decide +kernel) (he : starEach (e :: es) Γ.X.env = (false, eval e Γ.X.env) :: starEach es Γ.X.env := by rfl) (hpl : (backTo pos (starEach es Γ.X.env)).any (·.1) = false := by rfl) :
    ed Γ (.Call (.Name x p) (e :: es) [] pos) δ μ Q := by
  obtain ⟨fd, ps, dvs, dus, hl, b, v, d, G⟩ := Cd.ex
  subst hl
  exact ed_call G (hr.mono hkj) hm Cd.kp b v d h hg hdb he hpl
theorem ed_callC0 (Cd : CallX Γ.nn Γ.X.prog Γ.X.w Γ.X.K Γ.X.mg Γ.X.base k f n dds sp) (hr : Room j Γ.X.A) (hkj : k ≤ j) (hm : Γ.X.mg x = some (.ref f)) (h : dds.length = n ∧ sp dds μ Q fun cls ns xs μ' => Γ.W cls ns xs δ μ') (hg : Gl Γ.X x := by rfl)
    (hdb : (x == ("__debug__" : Str)) = false := by decide +kernel) : ed Γ (.Call (.Name x p) [] [] pos) δ μ Q := by
  obtain ⟨fd, ps, dvs, dus, hl, b, v, d, G⟩ := Cd.ex
  subst hl
  exact ed_call0 G (hr.mono hkj) hm Cd.kp b v d h hg hdb
theorem ed_methC {pl : Sem Bool} (c : Cls Γ.X.K C) (hm : Meth Γ.X.K C m f) (Cd : CallX Γ.nn Γ.X.prog Γ.X.w Γ.X.K Γ.X.mg Γ.X.base k f n dds sp) (hr : Room j Γ.X.A) (hkj : k ≤ j)
    (h : ed Γ o δ μ fun x μ1 => InsD C x μ1 m ∧ ea Γ (e :: es) δ μ1 fun ds μ2 => (x :: (ds ++ dds)).length = n ∧ sp (x :: (ds ++ dds)) μ2 Q fun cls ns xs μ' => Γ.W cls ns xs δ μ')
    (hst : starEach (e :: es) Γ.X.env = (false, eval e Γ.X.env) :: starEach es Γ.X.env := by rfl) (hpl : (backTo pos (starEach es Γ.X.env)).any (·.1) = false := by rfl)
    (ht : eval (.Call (.Attribute o m apos) (e :: es) [] pos) Γ.X.env = (do
      let ov ← eval o Γ.X.env
      standAt apos.atName
      let (f, first) ← holding [ov] (getMethod ov m pl)
      callWith pos f first (backTo pos (starEach (e :: es) Γ.X.env)) (backToKw pos (keywordEach [] Γ.X.env))) := by rfl) : ed Γ (.Call (.Attribute o m apos) (e :: es) [] pos) δ μ Q := by
  obtain ⟨fd, ps, dvs, dus, hl, b, v, d, G⟩ := Cd.ex
  subst hl
  exact ed_meth c hm G (hr.mono hkj) b v d h hst hpl ht
end
/-! ### the end of a law -/
/-- law's promise: a list of at most 63 ints of at most 1048576 bits each is handed in, True comes out -/
def spLaw : SpD := fun ds μ Q _ => ∃ ns : List Int, ds = [.rl (ns.map .int)] ∧ μ = [] ∧ ns.length ≤ 63 ∧ (∀ z ∈ ns, Builtin.Int.intBits z ≤ 1048576) ∧ ∀ μ', Q (.bl true) μ'
/-- from law's promise to its call by the claim's caller -/
theorem law_go {P : Program} {w : World} {K : PySem.W.Frag} {mg mb : Str → Option Value} {k : Nat} {fa a : Addr} {fd : FuncData} {x : Str} {sp : Sp} {s₁ : Shared} {vs : List Value} {ns : List Int}
    (KX : K.In s₁.heap) (hns : s₁.heap.Ns mainGlobals mg) (hb : s₁.heap.Ns builtinsNs mb) (hbb : ∀ x : Str, x ≠ "__name__" → mb x = bootBuiltins x) (hlim : s₁.heap.NoLimit) (hg : s₁.gens = #[]) (ha : s₁.heap.get? a = some { cls := .type "list", data := .seq vs.toArray })
    (hi : IntsAre vs ns) (hl : ns.length ≤ sizeLine) (hr : Room k callerA) (F : ∀ base : Heap, K.In base → base.Ns mainGlobals mg → FnOk P w K mg base false k fa fd [x] sp) (hbind : ∀ (s : Shared) (u : Value), BindsTo s fd ⟨[u], []⟩ [(x, u)])
    (hsp : ∀ H : Hp, SqL K H a (ns.map V.int) → sp [.ref a] H (fun v _ => v = .bl true) fun _ _ _ => False) :
    codeAny (model P w) callerA (.call (.ref fa) ⟨[.ref a], []⟩) (fun r s' => r = .ok (.ret (.bool true)) ∧ OldK s₁.heap s'.heap ∧ s'.os = s₁.os ∧ AllBare s'.gens) s₁ := by
  have rel := vals_ints hi
  let O : Obj := { cls := .type "list", data := .seq vs.toArray }
  have z1 : ((ns.map V.int).length : Nat) ≤ sizeLine := by rw [List.length_map]; exact hl
  -- the abstract heap: the script alone, unless it is one of the module's own things
  have go : ∀ H : Hp, (∀ c, H c = none ∨ (c = a ∧ K.lookup a = none ∧ H c = some (.frz O (.lst (ns.map V.int))))) → SqL K H a (ns.map V.int) → codeAny (model P w) callerA (.call (.ref fa) ⟨[.ref a], []⟩) (fun r s' => r = .ok (.ret (.bool true)) ∧ OldK s₁.heap s'.heap ∧ s'.os = s₁.os ∧ AllBare s'.gens) s₁ := fun H only seq => by
    have ok : HOk P w H s₁.heap := fun c u e => by
      rcases only c with q | ⟨rfl, _, q⟩
      · rw [q] at e; cases e
      · rw [q] at e; cases e
        exact ⟨ha, z1, vs, _, rel, ha⟩
    have hid : ∀ {c : Addr} {o : Obj}, s₁.heap.get? c = some o → (c = a → K.lookup a = none → False) → (hidT s₁.heap H).get? c = some o := fun {c o} e n => hidT_get e (by
      rcases only c with q | ⟨q1, q2, _⟩
      · exact q
      · exact (n q1 q2).elim)
    have noDict : ∀ {c : Addr} {m : Str → Option Value}, s₁.heap.Ns c m → (hidT s₁.heap H).Ns c m := fun {c m} ⟨o, es, ep, e, d, r⟩ => ⟨o, es, ep, hid e (fun q _ => by
      subst q
      rw [ha] at e
      cases e
      cases (show Data.seq vs.toArray _ = Data.dict es ep from d)), d, r⟩
    have kin : K.In (hidT s₁.heap H) := fun c o e => hid (KX c o e) fun q n => by
      subst q
      rw [n] at e; cases e
    obtain ⟨mc, l1, l2⟩ := hlim
    have e0 : Env0 P w K mg (hidT s₁.heap H) callerA [] s₁ H := ⟨rfl, ⟨kin, noDict hns, ⟨mb, noDict hb, hbb⟩, mc, noDict l1, l2⟩, fun c o e => of_hidT e, Nat.le_of_eq (hidT_size _ _), trivial, fun c hc => (List.not_mem_nil hc).elim, ok, .of_eq hg⟩
    refine codeAny_mono ((F _ kin (noDict hns)).run callerA [] s₁ H ⟨[.ref a], []⟩ [.ref a] [.ref a] _ _ hr e0 (hbind s₁ (.ref a)) (.cons rfl .nil) (hsp H seq)) fun r s' z => ?_
    match r, z with
    | .error e, z =>
      obtain ⟨_, _, _, _, _, _, _, _, _, _, _, _, z⟩ := z
      exact z.elim
    | .ok (.ret u), z =>
      obtain ⟨v, H', os, bare, un, ok', rv, q⟩ := z
      obtain rfl : v = V.bl true := q
      obtain rfl : u = Value.bool true := rv
      refine ⟨rfl, OldK.of_keep fun c o e => ?_, os, bare⟩
      rcases only c with q | ⟨_, _, q⟩
      · exact un.keep c o e q (fun n => (List.not_mem_nil (show c ∈ ([] : List Addr) from n)).elim) (fun n => nomatch n)
      · have e1 := (ok c _ q).1
        have e2 := (ok' c _ (un.frzs c O _ q)).1
        rw [e] at e1
        cases e1
        exact e2
  cases hk : K.lookup a with
  | some o =>
    have e := KX a o hk
    rw [ha] at e
    cases e
    exact go (fun _ => none) (fun _ => .inl rfl) (.inr ⟨O, vs.toArray, _, hk, rfl, rfl, rfl, by rw [List.size_toArray, hi.length]; exact hl, by simpa using rel⟩)
  | none =>
    refine go (fun c => if c = a then some (.frz O (.lst (ns.map V.int))) else none) (fun c => ?_) (.inl (.inr ⟨O, if_pos rfl⟩))
    by_cases q : c = a
    · exact .inr ⟨q, hk, if_pos q⟩
    · exact .inl (if_neg q)
theorem walk_pd {l : PySem.W.OpenLaw} {n k : Nat} {q : Program} {loose : List Str} {XP : (Str → Option Value) → Heap → Prop} {YP : World → Heap → Prop} {d : DefRec} {x : Str}
    (hn : l.most = some 63) (hdf : d.params.defaults = []) (hr : L2.Room k callerA)
    (F : ∀ (w : World) (mg : Str → Option Value) (fa : Addr) (h : Heap), YP w h → h.Ns mainGlobals mg → mg d.name = some (.ref fa) →
      ∃ (K : PySem.W.Frag) (fd : FuncData), K.In h ∧ (∀ (s : Shared) (u : Value), BindsTo s fd ⟨[u], []⟩ [(x, u)]) ∧
        ∀ base : Heap, K.In base → base.Ns mainGlobals mg → FnD false l.prog w K mg base k fa fd [x] spLaw) :
    PySem.W.WalkO q loose XP YP l.row.toRowW d [] (fun f vs => PySem.call f vs) := by
  refine Att.attach_callB hn hdf fun w s₀ s₁ mg mb fa o pm cd doc a vs ns G Y ho hd hcd hmg hobj hints hlen hbits hg => ?_
  obtain ⟨K, fd, KX, hb, hF⟩ := F w mg fa _ Y G.T.g hmg
  refine law_go (K := K) (k := k) (x := x) KX G.T.g G.T.b G.T.builtins G.T.nolimit hg hobj hints (Nat.le_trans hlen (by decide)) ⟨hr, rfl⟩ hF hb (fun H hS => ?_)
  refine ⟨H, [], [.rl (ns.map .int)], fun d _ => d = .bl true, fun _ _ _ _ => False, ⟨Same.refl H, fun c hc => (nomatch hc), List.nodup_nil, fun c hc => (nomatch hc)⟩, Dps.cons (by rw [Dp]; exact ⟨a, ns.map V.int, rfl, hS, Dps.of_ints⟩) Dps.nil, rfl, ⟨ns, rfl, rfl, hlen, hbits, fun _ => rfl⟩, fun v H' F' μ' d _ _ rd e => ?_, fun _ _ _ _ _ _ _ _ _ _ z => z⟩
  rw [e] at rd
  exact dpB rd
end PD
/-! PD7: == seen through owned lists; small facts about data. -/
namespace PD
open PySem PySem.Spec PyProof.Rows L2
/-- an owned list seen as its items -/
inductive Vw (μ : Mu) : D → D → Prop where
  | same (x : D) : Vw μ x x
  | own {p : Addr} {xs : List D} (h : (p, Cell.lst xs) ∈ μ) : Vw μ (.ref p) (.lst xs)
section
variable {Γ : Ct} {δ : Dl} {μ : Mu} {Q : D → Mu → Prop} {x y x' y' : D}
theorem Vw.dp {F H : Hp} {σ : L2.St} {v : V} (a : At Γ F δ μ σ H) (h : Vw μ x x') (hx : x'.ok = true) (r : Dp Γ.X.K F x v) : L2.Dp Γ.X.K H v x'.py := by
  cases h with
  | same => exact D.ok_dp a.sx.sub hx r
  | own hm =>
    rw [dpR r]
    obtain ⟨vs, h1, h2⟩ := a.sx.cells _ hm
    rw [D.ok] at hx
    rw [D.py]
    exact .lst (.inl (.inl h1)) (D.oks_dp a.sx.sub hx h2)
theorem opd_eqV (hu : Γ.X.A.units + 64 < cLine) (h1 : Vw μ x x') (h2 : Vw μ y y') (hx : x'.ok = true) (hy : y'.ok = true) (dx : x'.py.depth ≤ 64) (dy : y'.py.depth ≤ 64) (q : Q (.bl (eqD x' y')) μ) : opd Γ (compareOp .Eq) x y δ μ Q := opd_of (op_eqD hu) fun F σ H vx vy a r1 r2 =>
  ⟨x'.py, y'.py, h1.dp a hx r1, h2.dp a hy r2, by unfold SeqAt.shaped; rw [D.ok_lay hx, decide_eq_true dx]; rfl, by unfold SeqAt.shaped; rw [D.ok_lay hy, decide_eq_true dy]; rfl, PostE.here a dpb q⟩
theorem opd_neV (hu : Γ.X.A.units + 64 < cLine) (h1 : Vw μ x x') (h2 : Vw μ y y') (hx : x'.ok = true) (hy : y'.ok = true) (dx : x'.py.depth ≤ 64) (dy : y'.py.depth ≤ 64) (q : Q (.bl (!eqD x' y')) μ) : opd Γ (compareOp .NotEq) x y δ μ Q := opd_of (op_neD hu) fun F σ H vx vy a r1 r2 =>
  ⟨x'.py, y'.py, h1.dp a hx r1, h2.dp a hy r2, by unfold SeqAt.shaped; rw [D.ok_lay hx, decide_eq_true dx]; rfl, by unfold SeqAt.shaped; rw [D.ok_lay hy, decide_eq_true dy]; rfl, PostE.here a dpb q⟩
end
theorem oks_ints : ∀ (l : List Int), D.oks (l.map .int) = true
  | [] => by rw [List.map_nil, D.oks]
  | z :: l => by rw [List.map_cons, D.oks, D.ok, oks_ints l]; rfl
theorem depthAll_ints : ∀ (l : List Int), PyData.depthAll (D.pys (l.map .int)) ≤ 1
  | [] => by rw [List.map_nil, D.pys, PyData.depthAll]; omega
  | z :: l => by
    have := depthAll_ints l
    rw [List.map_cons, D.pys, D.py, PyData.depthAll, PyData.depth]; omega
theorem depth_ints (l : List Int) : (D.lst (l.map .int)).py.depth ≤ 64 := by
  have := depthAll_ints l
  rw [D.py, PyData.depth]; omega
theorem ok_ints (l : List Int) : (D.lst (l.map .int)).ok = true := by rw [D.ok]; exact oks_ints l
theorem eqD_nil (xs : List D) : eqD (.lst xs) (.lst []) = xs.isEmpty := by
  unfold eqD
  cases xs with
  | nil => rfl
  | cons x xs =>
    show PyData.eqv (.list (D.pys (x :: xs))) (.list (D.pys [])) = false
    rw [D.pys, D.pys, PyData.eqv, PyData.eqvAll]
theorem nil_or_snoc {α : Type} (l : List α) : l = [] ∨ ∃ l0 z, l = l0 ++ [z] := by
  rcases List.eq_nil_or_concat l with h | ⟨l0, z, h⟩
  · exact .inl h
  · exact .inr ⟨l0, z, by rw [h, List.concat_eq_append]⟩
theorem exB {b : Bool} {P : Bool → Prop} (h : P b) : ∃ c, D.bl b = D.bl c ∧ P c := ⟨b, rfl, h⟩
theorem exI {b : Int} {P : Int → Prop} (h : P b) : ∃ c, D.int b = D.int c ∧ P c := ⟨b, rfl, h⟩
theorem small_lt {n : Nat} (h : n < 100000) : n < sizeLine := Nat.lt_of_lt_of_le h (by decide)
theorem small_le {n : Nat} (h : n ≤ 100000) : n ≤ sizeLine := Nat.le_trans h (by decide)
/-- a word between a statement and the rest -/
theorem sds_cut {Γ : Ct} {δ : Dl} {μ : Mu} {E : En} {st : Stmt} {rest : List Stmt} (M : Dl → Mu → Prop) (h : sd Γ st δ μ { E with nx := M }) (k : ∀ δ' μ', M δ' μ' → sds Γ rest δ' μ' E) : sds Γ (st :: rest) δ μ E :=
  sds_cons (sd_mono h ⟨k, fun _ _ z => z, fun _ _ z => z, fun _ _ z => z⟩)
theorem atI_last' {α : Type} (xs : List α) (v : α) : atI (xs ++ [v]) (-1) = some v := atI_last xs v
theorem map_concat_int (l : List Int) (z : Int) : (l ++ [z]).map D.int = l.map D.int ++ [.int z] := by rw [List.map_append]; rfl
end PD
namespace PD
open PySem PySem.Spec PyProof.Rows L2
/-- a def's own name: its place, its kind -/
structure Nm (N : List Str) (sc : Scope) (i : Nat) (x : Str) : Prop where
  at_ : N[i]? = some x
  loc : sc.names.lookup x = some .local ∨ sc.names.lookup x = some .cell
  dbg : (x == ("__debug__" : Str)) = false
  cls : (x == ("__classdict__" : Str)) = false
section
variable {Γ Γ0 : Ct} {N : List Str} {sc scope : Scope} {i : Nat} {x : Str} {d : D} {δ : Dl} {μ : Mu} {Q : D → Mu → Prop} {R : Dl → Mu → Prop} {pos : Pos} {E : En} {s : Shared} {H : Hp} {C : Addr} {cl : List (Str × Addr)} {fp : List Addr} {F0 : Hp} {μ0 : Mu} {H0 : Hp} {vs : List Nat}
theorem Nm.vis (n : Nm N sc i x) (e : Γ.X.env.scope = sc) : Vis Γ.X.env.scope x := by
  rw [e]; rcases n.loc with h | h
  · exact .inl h
  · exact .inr (.inl h)
theorem Nm.locl (n : Nm N sc i x) (e : Γ.X.env.scope = sc) : Loc Γ.X.env.scope x := by rw [e]; exact n.loc
theorem ed_nm (n : Nm N sc i x) (q : δ[i]? = some (some d)) (h : Q d μ) (e : Γ.X.env.scope = sc := by rfl) (e2 : Γ.X.N = N := by rfl) : ed Γ (.Name x pos) δ μ Q := ed_name (by rw [e2]; exact n.at_) q h (n.vis e) n.dbg n.cls
/-- in a comprehension's block -/
theorem ed_nmB (n : Nm N sc i x) (q : δ[i]? = some (some d)) (h : Q d μ) (v : ((relS scope sc).names.lookup x = some .local ∨ (relS scope sc).names.lookup x = some .cell) ∨ (relS scope sc).names.lookup x = some .free := by decide +kernel) (e : Γ0.X.env.scope = sc := by rfl) (e2 : Γ0.X.N = N := by rfl) :
    ed (Γ0.blk scope s H C cl fp F0 μ0 H0) (.Name x pos) δ μ Q := by
  refine ed_name (i := i) ?_ q h ?_ n.dbg n.cls
  · show Γ0.X.N[i]? = some x
    rw [e2]; exact n.at_
  · have e3 : (Γ0.blk scope s H C cl fp F0 μ0 H0).X.env.scope = relS scope sc := by rw [← e]; rfl
    rw [e3]
    rcases v with (v | v) | v
    · exact .inl v
    · exact .inr (.inl v)
    · exact .inr (.inr v)
theorem gd_nm (n : Nm N sc i x) (hN : N.Nodup) (h : R (δ.set i (some d)) μ) (hf : Γ.X.fn x = true := by rfl) (e : Γ.X.env.scope = sc := by rfl) (e2 : Γ.X.N = N := by rfl) : gd Γ (.Name x pos) d δ μ R := gd_name (by rw [e2]; exact hN) (by rw [e2]; exact n.at_) h (n.locl e) (.inl hf)
theorem sd_nm {e' : Expr} {pos' : Pos} (n : Nm N sc i x) (hN : N.Nodup) (h : ed Γ e' δ μ fun d μ' => E.nx (δ.set i (some d)) μ') (hs : swapsWith e' (some (.Name x pos')) pos.line Γ.X.env = pure false := by rfl) (hf : Γ.X.fn x = true := by rfl) (e : Γ.X.env.scope = sc := by rfl) (e2 : Γ.X.N = N := by rfl) :
    sd Γ (.Assign [.Name x pos'] e' pos) δ μ E := sd_set (by rw [e2]; exact hN) (by rw [e2]; exact n.at_) h hs (n.locl e) (.inl hf)
theorem gl_of (h : sc.names.lookup x = some .globalImplicit) (e : Γ.X.env.scope = sc := by rfl) : Gl Γ.X x := by
  show Γ.X.env.scope.names.lookup x = _
  rw [e]; exact h
theorem glB_of (h : (relS scope sc).names.lookup x = some .globalImplicit := by decide +kernel) (e : Γ0.X.env.scope = sc := by rfl) : Gl (Γ0.blk scope s H C cl fp F0 μ0 H0).X x := by
  have e3 : (Γ0.blk scope s H C cl fp F0 μ0 H0).X.env.scope = relS scope sc := by rw [← e]; rfl
  show (Γ0.blk scope s H C cl fp F0 μ0 H0).X.env.scope.names.lookup x = _
  rw [e3]; exact h
end
/-- a name that a comprehension's block stores -/
structure NmB (N : List Str) (i : Nat) (x : Str) : Prop where
  at_ : N[i]? = some x
  dbg : (x == ("__debug__" : Str)) = false
  cls : (x == ("__classdict__" : Str)) = false
section
variable {Γ Γ0 : Ct} {N : List Str} {sc scope : Scope} {i : Nat} {x : Str} {d : D} {δ : Dl} {μ : Mu} {Q : D → Mu → Prop} {R : Dl → Mu → Prop} {pos : Pos} {s : Shared} {H : Hp} {C : Addr} {cl : List (Str × Addr)} {fp : List Addr} {F0 : Hp} {μ0 : Mu} {H0 : Hp} {vs : List Nat}
theorem ed_nmC (n : NmB N i x) (q : δ[i]? = some (some d)) (h : Q d μ) (v : ((relS scope sc).names.lookup x = some .local ∨ (relS scope sc).names.lookup x = some .cell) ∨ (relS scope sc).names.lookup x = some .free := by decide +kernel) (e : Γ0.X.env.scope = sc := by rfl) (e2 : Γ0.X.N = N := by rfl) :
    ed (Γ0.blk scope s H C cl fp F0 μ0 H0) (.Name x pos) δ μ Q := by
  refine ed_name (i := i) ?_ q h ?_ n.dbg n.cls
  · show Γ0.X.N[i]? = some x
    rw [e2]; exact n.at_
  · have e3 : (Γ0.blk scope s H C cl fp F0 μ0 H0).X.env.scope = relS scope sc := by rw [← e]; rfl
    rw [e3]
    rcases v with (v | v) | v
    · exact .inl v
    · exact .inr (.inl v)
    · exact .inr (.inr v)
theorem gv_nmC (n : NmB N i x) (hN : N.Nodup) (hv : i ∈ vs) (h : R (δ.set i (some d)) μ) (v : (relS scope sc).names.lookup x = some .local ∨ ((relS scope sc).names.lookup x = some .cell ∧ scope.names.lookup x = some .cell) := by decide +kernel) (e : Γ0.X.env.scope = sc := by rfl) (e2 : Γ0.X.N = N := by rfl) :
    gv (Γ0.blk scope s H C cl fp F0 μ0 H0) (.Name x pos) d vs δ μ R := by
  have e3 : (Γ0.blk scope s H C cl fp F0 μ0 H0).X.env.scope = relS scope sc := by rw [← e]; rfl
  refine gv_name (i := i) (by show Γ0.X.N.Nodup; rw [e2]; exact hN) (by show Γ0.X.N[i]? = some x; rw [e2]; exact n.at_) hv h ?_ ?_
  · rw [e3]; rcases v with v | v
    · exact .inl v
    · exact .inr v.1
  · rw [e3]; rcases v with v | v
    · exact .inr v
    · refine .inl ?_
      show (scope.names.lookup x == some .cell) = true
      rw [v.2]; rfl
end
end PD
namespace PD
open PySem
theorem bb_len : bootBuiltins "len" = some (.builtin "len") := by decide +kernel
theorem bb_abs : bootBuiltins "abs" = some (.builtin "abs") := by decide +kernel
theorem bb_isinstance : bootBuiltins "isinstance" = some (.builtin "isinstance") := by decide +kernel
theorem bb_all : bootBuiltins "all" = some (.builtin "all") := by decide +kernel
theorem bb_repr : bootBuiltins "repr" = some (.builtin "repr") := by decide +kernel
theorem bb_int : bootBuiltins "int" = some (.type "int") := by decide +kernel
theorem bb_str : bootBuiltins "str" = some (.type "str") := by decide +kernel
theorem bb_list : bootBuiltins "list" = some (.type "list") := by decide +kernel
theorem bb_tuple : bootBuiltins "tuple" = some (.type "tuple") := by decide +kernel
theorem bb_bool : bootBuiltins "bool" = some (.type "bool") := by decide +kernel
theorem bb_range : bootBuiltins "range" = some (.type "range") := by decide +kernel
theorem bb_enumerate : bootBuiltins "enumerate" = some (.type "enumerate") := by decide +kernel
end PD
/-! PD8: xs[::-1]; parallel stores. -/
namespace PD
open PySem PySem.Spec PyProof.Rows L2
section
variable {Γ : Ct} {δ : Dl} {μ : Mu} {Q : D → Mu → Prop} {e : Expr} {pos : Pos}
/-- e[::-1], owned -/
theorem ed_revO {k : Nat} {p1 p2 p3 : Pos} (h : ed Γ e δ μ fun x μ' => ∃ xs, x = .lst xs ∧ ∀ p, Q (.ref p) ((p, .lst xs.reverse) :: μ')) : ed Γ (.Subscript e (.Slice none none (some (.UnaryOp .USub (.Constant (.int 1) k p1) p2)) p3) pos) δ μ Q := fun F σ H a =>
  we_of (pe_revL pe_we) (we_mono (h F σ H a) fun v H1 ⟨F1, x, μ1, s1, a1, r1, xs, e1, q⟩ => by
    subst e1
    obtain ⟨p0, vs, rfl, h1, h2⟩ := dpL r1
    exact ⟨p0, vs, rfl, .inl (.inl (a1.sx.sub _ _ h1)), fun p hp => PostE.up s1 (PostE.own (c := .lst xs.reverse) a1 hp ⟨_, upd_same, h2.reverse⟩ (q p))⟩)
/-- e[::-1], known -/
theorem ed_rev {k : Nat} {p1 p2 p3 : Pos} (h : ed Γ e δ μ fun x μ' => ∃ xs, x = .lst xs ∧ Q (.lst xs.reverse) μ') : ed Γ (.Subscript e (.Slice none none (some (.UnaryOp .USub (.Constant (.int 1) k p1) p2)) p3) pos) δ μ Q := fun F σ H a =>
  we_of (pe_revL pe_we) (we_mono (h F σ H a) fun v H1 ⟨F1, x, μ1, s1, a1, r1, xs, e1, q⟩ => by
    subst e1
    obtain ⟨p0, vs, rfl, h1, h2⟩ := dpL r1
    exact ⟨p0, vs, rfl, .inl (.inl (a1.sx.sub _ _ h1)), fun p hp => PostE.up s1 (PostE.new a1 hp (dpl upd_same (h2.reverse.mono (same_upd (a1.sx.sub.free hp)))) q)⟩)
end
/-! ### slices of anything -/
def rSlC (K : PySem.W.Frag) : V → Option Int → Option Int → Hp → VK → Prop := fun x lo hi H Q => rSlL K x lo hi H Q ∨ (L2.rSlA K x lo hi H Q ∨ rSlS x lo hi H Q)
theorem sl_c {X : Cx} : SlR X (rSlC X.K) := sl_list.or (sl_tupA.or sl_str)
theorem rSlA_mono (K : PySem.W.Frag) : ∀ x l u H Q Q', (∀ v H', Q v H' → Q' v H') → L2.rSlA K x l u H Q → L2.rSlA K x l u H Q' := fun x l u H Q Q' k h => by
  obtain ⟨a, xs, e, h1, h2, h3⟩ := h
  exact ⟨a, xs, e, h1, fun z => k _ _ (h2 z), fun z p hp => k _ _ (h3 z p hp)⟩
theorem rSlC_mono (K : PySem.W.Frag) : ∀ x l u H Q Q', (∀ v H', Q v H' → Q' v H') → rSlC K x l u H Q → rSlC K x l u H Q' := fun x l u H Q Q' k h => by
  rcases h with h | h | h
  · exact .inl (rSlL_mono K _ _ _ _ _ _ k h)
  · exact .inr (.inl (rSlA_mono K _ _ _ _ _ _ k h))
  · exact .inr (.inr (rSlS_mono _ _ _ _ _ _ k h))
def cutD (xs : List D) (lo hi : Option Int) : List D := (xs.drop (HT.sIx xs.length 0 lo)).take (HT.sIx xs.length xs.length hi - HT.sIx xs.length 0 lo)
section
variable {Γ : Ct} {δ : Dl} {μ : Mu} {Q : D → Mu → Prop} {e : Expr} {pos : Pos}
def slc (Γ : Ct) (x : D) (lo hi : Option Int) (δ : Dl) (μ : Mu) (Q : D → Mu → Prop) : Prop := sld Γ (rSlC Γ.X.K) x lo hi δ μ Q
theorem ed_slc {lo hi : Option Expr} {p2 : Pos} (h : ed Γ e δ μ fun x μ1 => eo Γ lo δ μ1 fun l μ2 => eo Γ hi δ μ2 fun u μ3 => slc Γ x l u δ μ3 Q) : ed Γ (.Subscript e (.Slice lo hi none p2) pos) δ μ Q := ed_slice sl_c (rSlC_mono _) h
theorem slc_lst {xs : List D} {lo hi : Option Int} (q : Q (.lst (cutD xs lo hi)) μ) : slc Γ (.lst xs) lo hi δ μ Q := fun F σ H vx a r => .inl (sld_lst q F σ H vx a r)
theorem slc_rl {xs : List D} {lo hi : Option Int} (q : Q (.lst (cutD xs lo hi)) μ) : slc Γ (.rl xs) lo hi δ μ Q := fun F σ H vx a r => .inl (sld_rl q F σ H vx a r)
theorem slc_str {z : Str} {lo hi : Option Int} (hz : z.length ≤ sizeLine) (q : Q (.str (cutS z lo hi)) μ) : slc Γ (.str z) lo hi δ μ Q := fun F σ H vx a r => .inr (.inr (sld_str hz q F σ H vx a r))
theorem slc_tup {xs : List D} {lo hi : Option Int} (q : Q (.tup (cutD xs lo hi)) μ) : slc Γ (.tup xs) lo hi δ μ Q := fun F σ H vx a r1 => .inr (.inl (by
  obtain ⟨p1, vs, rfl, h1, h2⟩ := dpT r1
  refine ⟨p1, vs, rfl, Same.sqT a.sx.sub h1, fun z => ?_, fun z p hp => ?_⟩
  · refine PostE.here a (d := .tup (cutD xs lo hi)) (dpt h1 ?_) q
    rw [← h2.length] at z
    unfold cutD
    rw [z.1, z.2, List.drop_zero, Nat.sub_zero, List.take_length]
    exact h2
  · have sF := same_upd (o := HO.tup (cutV vs lo hi)) (a.sx.sub.free hp)
    refine PostE.new a hp (dpt (.inl (.inl upd_same)) (Dps.mono sF ?_)) q
    unfold cutV cutD
    rw [← h2.length]
    exact (h2.drop _).take _))
/-- tuples put together -/
theorem opd_catT {xs ys : List D} (hl : xs.length + ys.length ≤ sizeLine) (q : Q (.tup (xs ++ ys)) μ) : opd Γ (binaryOp .Add) (.tup xs) (.tup ys) δ μ Q := opd_of op_catA fun F σ H vx vy a r1 r2 => by
  obtain ⟨p1, vs, rfl, h1, h2⟩ := dpT r1
  obtain ⟨p2, ws, rfl, h3, h4⟩ := dpT r2
  refine ⟨p1, p2, vs, ws, rfl, rfl, Same.sqT a.sx.sub h1, Same.sqT a.sx.sub h3, by rw [← h2.length, ← h4.length]; exact hl, fun z => ?_, fun z1 z2 => ?_, fun z1 z2 p hp => ?_⟩
  · subst z
    have e : xs = [] := List.length_eq_zero_iff.mp (by rw [h2.length]; rfl)
    subst e
    exact PostE.here a (dpt h3 h4) q
  · subst z2
    have e : ys = [] := List.length_eq_zero_iff.mp (by rw [h4.length]; rfl)
    subst e
    rw [List.append_nil] at q
    exact PostE.here a (dpt h1 h2) q
  · have sF := same_upd (o := HO.tup (vs ++ ws)) (a.sx.sub.free hp)
    exact PostE.new a hp (dpt (.inl (.inl upd_same)) ((h2.append h4).mono sF)) q
end
/-! ### x, y = e1, e2 -/
section
variable {Γ : Ct} {δ : Dl} {μ : Mu} {E : En} {pos : Pos} {N : List Str} {sc : Scope} {i j l : Nat} {x y z : Str} {a b c : Expr} {px py pz pt pt2 : Pos}
theorem sd_par2 {kt k2} (hc : Γ.X.calm = true) (hN : N.Nodup) (n : Nm N sc i x) (n' : Nm N sc j y) (hx : sc.names.lookup x = some .local) (hy : sc.names.lookup y = some .local) (hij : i ≠ j)
    (h : ea Γ [a, b] δ μ fun ds μ' => ∃ d d', ds = [d, d'] ∧ E.nx ((δ.set i (some d)).set j (some d')) μ') (e : Γ.X.env.scope = sc := by rfl) (e2 : Γ.X.N = N := by rfl)
    (hw : swappedStores [.Tuple [.Name x px, .Name y py] kt pt] (.Tuple [a, b] k2 pt2) Γ.X.env = pure (some [x, y]) := by rfl)
    (hs : swapsWithSole [.Tuple [.Name x px, .Name y py] kt pt] (.Tuple [a, b] k2 pt2) pos.line Γ.X.env = pure false := by rfl) : sd Γ (.Assign [.Tuple [.Name x px, .Name y py] kt pt] (.Tuple [a, b] k2 pt2) pos) δ μ E := fun F σ H at_ =>
  ws_of (ps_par hc (by rw [e2]; exact hN) (by rw [e2]; exact n.at_) (by rw [e2]; exact n'.at_) hij (by rw [e]; exact hx) (by rw [e]; exact hy) pa_wa hw hs) (wa_mono (h F σ H at_) fun vs H' ⟨F', ds, μ', s, a', r, d, d', e1, q⟩ => by
    subst e1
    obtain ⟨v, v2, rfl, r1, r3⟩ := r.two
    exact ⟨v, v2, rfl, F', _, μ', s, (a'.fr_set i r1).fr_set j r3, q⟩)
theorem sd_par3 {kt k2} (hc : Γ.X.calm = true) (hN : N.Nodup) (n : Nm N sc i x) (n' : Nm N sc j y) (n'' : Nm N sc l z) (hx : sc.names.lookup x = some .local) (hy : sc.names.lookup y = some .local) (hz : sc.names.lookup z = some .local) (hij : i ≠ j) (hil : i ≠ l) (hjl : j ≠ l)
    (h : ea Γ [a, b, c] δ μ fun ds μ' => ∃ d d' d'', ds = [d, d', d''] ∧ E.nx (((δ.set i (some d)).set j (some d')).set l (some d'')) μ') (e : Γ.X.env.scope = sc := by rfl) (e2 : Γ.X.N = N := by rfl)
    (hw : swappedStores [.Tuple [.Name x px, .Name y py, .Name z pz] kt pt] (.Tuple [a, b, c] k2 pt2) Γ.X.env = pure (some [x, y, z]) := by rfl)
    (hs : swapsWithSole [.Tuple [.Name x px, .Name y py, .Name z pz] kt pt] (.Tuple [a, b, c] k2 pt2) pos.line Γ.X.env = pure false := by rfl) : sd Γ (.Assign [.Tuple [.Name x px, .Name y py, .Name z pz] kt pt] (.Tuple [a, b, c] k2 pt2) pos) δ μ E := fun F σ H at_ =>
  ws_of (ps_par3 hc (by rw [e2]; exact hN) (by rw [e2]; exact n.at_) (by rw [e2]; exact n'.at_) (by rw [e2]; exact n''.at_) hij hil hjl (by rw [e]; exact hx) (by rw [e]; exact hy) (by rw [e]; exact hz) pa_wa hw hs) (wa_mono (h F σ H at_) fun vs H' ⟨F', ds, μ', s, a', r, d, d', d'', e1, q⟩ => by
    subst e1
    obtain ⟨v, ws', rfl, r1, r2⟩ := r.uncons
    obtain ⟨v2, v3, rfl, r3, r4⟩ := r2.two
    exact ⟨v, v2, v3, rfl, F', _, μ', s, ((a'.fr_set i r1).fr_set j r3).fr_set l r4, q⟩)
end
end PD
namespace PD
open PySem PySem.Spec PyProof.Rows L2
section
variable {Γ : Ct} {elt tg iter : Expr} {ifs : List Expr} {scope : Scope} {vs : List Nat} {δ : Dl} {μ : Mu} {Q : List D → Mu → Prop}
theorem take_fm {ds : List D} {i : Nat} {d : D} (f : D → Bool) (g : D → D) (h : ds[i]? = some d) : ((ds.take (i + 1)).filter f).map g = ((ds.take i).filter f).map g ++ (if f d = true then [g d] else []) := by
  rw [List.take_add_one, h]
  show (((ds.take i) ++ [d]).filter f).map g = _
  rw [List.filter_append, List.map_append]
  congr 1
  by_cases q : f d = true
  · rw [if_pos q, List.filter_cons, if_pos q]; rfl
  · rw [if_neg q, List.filter_cons, if_neg q]; rfl
/-- a comprehension that makes of each item g of it, where f holds; the cells stay -/
theorem lcd_fm (f : D → Bool) (g : D → D) (h : eid Γ tg iter δ μ fun ds S μ1 => ds.length ≤ 1000000 ∧ S μ1 ∧
      (∀ d ∈ ds, allB Γ scope fun Γb => gv Γb tg d vs (wipeD δ vs) μ1 fun δ2 μ2 => allB Γ scope fun Γc => eif Γc ifs δ2 μ2 fun b μ3 => b = f d ∧ μ3 = μ1 ∧ (f d = true → allB Γ scope fun Γd => ed Γd elt δ2 μ1 fun r μ4 => r = g d ∧ μ4 = μ1)) ∧ Q ((ds.filter f).map g) μ1) :
    lcd Γ elt tg iter ifs scope vs δ μ Q := fun F σ H a => wi_mono (h F σ H a) fun J H1 ⟨F1, ds, S, μ1, s1, a1, ok, hz, hS, hb, hq⟩ => by
  refine ⟨F1, ds, S, μ1, s1, a1, ok, hz, fun i acc μ' => μ' = μ1 ∧ acc = ((ds.take i).filter f).map g, ⟨rfl, rfl⟩, ?_, ?_, ?_⟩
  · rintro i acc μ' hi ⟨rfl, rfl⟩
    refine ⟨hS, ?_⟩
    rw [List.length_map]
    have h1 := List.length_filter_le f (ds.take i)
    have h2 := List.length_take_le i ds
    omega
  · rintro i d acc μ' hd ⟨rfl, rfl⟩
    intro s H C cl fp F0 μ0 H0 F2 σ2 H2 v a2 r2
    refine wg_mono (hb d (List.mem_of_getElem? hd) s H C cl fp F0 μ0 H0 F2 σ2 H2 v a2 r2) fun σ3 H3 ⟨w3, F3, δ3, μ3, s3, a3, q3⟩ => ⟨w3, F3, δ3, μ3, s3, a3, ?_⟩
    intro s' H' C' cl' fp' F0' μ0' H0'
    have key : ∀ {b : Bool} {μ4 : Mu}, (b = f d ∧ μ4 = μ' ∧ (f d = true → allB Γ scope fun Γd => ed Γd elt δ3 μ' fun r μ5 => r = g d ∧ μ5 = μ')) →
        if b = true then allB Γ scope fun Γd => ed Γd elt δ3 μ4 fun r μ5 => μ5 = μ' ∧ ((ds.take i).filter f).map g ++ [r] = ((ds.take (i + 1)).filter f).map g else μ4 = μ' ∧ ((ds.take i).filter f).map g = ((ds.take (i + 1)).filter f).map g := by
      rintro b μ4 ⟨rfl, rfl, hk⟩
      rw [take_fm f g hd]
      by_cases q : f d = true
      · rw [if_pos q, if_pos q]
        intro s6 H6 C6 cl6 fp6 F6 μ6 H06
        exact ed_mono (hk q s6 H6 C6 cl6 fp6 F6 μ6 H06) fun r μ5 ⟨e1, e2⟩ => ⟨e2, by rw [e1]⟩
      · rw [if_neg q, if_neg q]
        exact ⟨rfl, (List.append_nil _).symm⟩
    have z := q3 s' H' C' cl' fp' F0' μ0' H0'
    match ifs, z with
    | [], z => exact key z
    | [c], z => exact et_mono z fun b μ4 hk => key hk
  · rintro acc μ' ⟨rfl, rfl⟩
    rw [List.take_length]; exact hq
end
end PD
namespace PD
open PySem
section
variable {Γ : Ct} {δ : Dl} {μ : Mu} {Q : Option Int → Mu → Prop} {e : Expr}
theorem eo_none (q : Q none μ) : eo Γ none δ μ Q := q
theorem eo_some (h : ed Γ e δ μ fun d μ' => ∃ i, d = .int i ∧ Q (some i) μ') : eo Γ (some e) δ μ Q := h
end
end PD
namespace PD
open PySem PySem.Spec PyProof.Rows L2
/-! more rules -/
section
variable {Γ : Ct} {e c : Expr} {δ : Dl} {μ : Mu} {Q : Bool → Mu → Prop}
theorem eif_nil (q : Q true μ) : eif Γ [] δ μ Q := q
theorem eif_one (h : et Γ c δ μ Q) : eif Γ [c] δ μ Q := h
end
/-! ### lists of numbers -/
def intOf : D → Int | .int z => z | _ => 0
theorem cut_ints (xs : List Int) (lo hi : Option Int) : ∃ ys : List Int, PD.cutD (xs.map .int) lo hi = ys.map .int ∧ ys.length ≤ xs.length ∧ ∀ y ∈ ys, y ∈ xs := by
  refine ⟨(xs.drop (HT.sIx xs.length 0 lo)).take (HT.sIx xs.length xs.length hi - HT.sIx xs.length 0 lo), ?_, ?_, fun y hy => List.mem_of_mem_drop (List.mem_of_mem_take hy)⟩
  · unfold PD.cutD; rw [List.length_map, ← List.map_drop, ← List.map_take]
  · rw [List.length_take, List.length_drop]; omega
theorem fm_ints (f : D → Bool) (g : D → D) (g' : Int → Int) (hg : ∀ z, g (.int z) = .int (g' z)) (xs : List Int) : (((xs.map D.int).filter f).map g) = ((xs.filter (fun z => f (.int z))).map g').map .int := by
  induction xs with
  | nil => rfl
  | cons x xs ih =>
    rw [List.map_cons, List.filter_cons, List.filter_cons]
    cases h : f (.int x)
    · exact ih
    · show g (.int x) :: _ = D.int (g' x) :: _
      rw [hg, ih]
end PD
/-! PD10: instances that are made; isinstance; membership; constants. -/
namespace PD
open PySem PySem.Spec PyProof.Rows L2
/-! ### an instance that is made -/
section
variable {X : Cx} {b' : Md} {k : Nat} {C f : Addr} {fd : FuncData} {ps : List Str} {sp : Sp} {dvs : List V} {dus : List Value} {E : XK} {x : Str} {p pos : Pos} {e : Expr} {es : List Expr}
theorem run_makeS {pins : List (Addr × Obj)} {σ : L2.St} {H : Hp} {s : Shared} {Q : VK} {us : List Value} {vs : List V} (M : Mk X.K C f) (G : FnOk X.prog X.w X.K X.mg X.base b' k f fd ps sp) (hr : Room (k + 1) X.A) (hb : Binds X.K fd ps dus) (hd : Vals dvs dus) (hx : PassesAt (CXB b' X.prog X.w) X σ E) (I : Inv X pins σ H s) (r : Vals vs us)
    (h : ∀ a dx, H a = none → H dx = none → dx ≠ a → sp (.ref a :: (vs ++ dvs)) (upd (upd H dx (.own a)) a (.ins C dx [])) (fun v H2 => v = .non ∧ Q (.ref a) H2) E) : wpAny (model X.prog X.w) X.A (call (.ref C) us) (EP X pins σ Q) X.xe s := by
  let n := s.heap.objs.size
  have J := Inv.made (C := C) I
  have hq := h (n + 1) n (I.hok.fresh (Nat.le_succ _)) (I.hok.fresh (Nat.le_refl _)) (Nat.ne_of_lt (Nat.lt_succ_self n))
  have rr : Vals (V.ref (n + 1) :: (vs ++ dvs)) (Value.ref (n + 1) :: (us ++ dus)) := .cons rfl (r.append hd)
  have hn : (Value.ref (n + 1) :: us ++ dus).length = ps.length := (rr.length.symm.trans (G.len _ _ _ _ hq) :)
  have go := G.run _ X.stack _ _ ⟨Value.ref (n + 1) :: us, []⟩ _ _ _ E (hr.make C us []) (J.env0.make C us []) (hb _ (Value.ref (n + 1) :: us) J.kIn hn) rr hq
  refine wpAny_call (make_map (f := f) I.kIn M.makes M.init (beq_iff_eq.mp M.fn) (codeAny_mono go fun res s' z => ?_))
  match res, z with
  | .error e, z => exact hx pins _ _ e s' J z
  | .ok (.ret u), z =>
    obtain ⟨v, H', J', rv, rfl, q⟩ := J.after z
    exact ⟨rv, V.ref (n + 1), H', J', rfl, q⟩
end
/-- the cells with an instance, which is then given up to the data -/
def Frz (Q : D → Mu → Prop) (p C dx : Addr) : D → Mu → Prop := fun d μ' => d = .non ∧ ∃ ns vs μa μb, μ' = μa ++ (p, Cell.ins C dx ns vs) :: μb ∧ Q (.obj C ns vs) (μa ++ μb)
/-- a class whose instances are data: sp what is asked of the arguments (with the defaults) -/
structure MakeD (P : Program) (w : World) (K : PySem.W.Frag) (mg : Str → Option Value) (base : Heap) (k : Nat) (C : Addr) (n : Nat) (dds : List D) (sp : SpD) : Prop where
  ex : ∃ f spI, Mk K C f ∧ CallD P w K mg base k f (n + 1) dds spI ∧ ∀ ds μ Q E, sp ds μ Q E → ∀ p dx, spI (.ref p :: ds) ((p, .ins C dx [] []) :: μ) (Frz Q p C dx) E
section
variable {Γ : Ct} {δ : Dl} {μ : Mu} {Q : D → Mu → Prop} {pos : Pos} {k j n : Nat} {f C : Addr} {sp : SpD} {dds : List D} {x m : Str} {p apos : Pos} {e o : Expr} {es : List Expr}
theorem PostE.frz {F H : Hp} {σ : L2.St} {q dx : Addr} {v : V} (hv : v = .ref q) (h : ∃ F' μ', Same F F' ∧ At Γ F' δ μ' σ H ∧ ∃ ns vs μa μb, μ' = μa ++ (q, Cell.ins C dx ns vs) :: μb ∧ Q (.obj C ns vs) (μa ++ μb)) : PostE Γ F δ σ Q v H := by
  obtain ⟨F', μ', s', a, ns, vs, μa, μb, rfl, q1⟩ := h
  subst hv
  obtain ⟨gs, h1, h2, h3⟩ := a.sx.cells (q, .ins C dx ns vs) mem_mid
  have sF : Same F' (upd F' q (.ins C dx gs)) := same_upd (a.sx.off (q, .ins C dx ns vs) mem_mid)
  exact ⟨_, .obj C ns vs, _, s'.trans sF, a.freeze h1, by rw [Dp]; exact ⟨q, dx, gs, rfl, upd_same, h2, h3.mono sF⟩, q1⟩
end
/-! ### constants of the top -/
theorem allK {K : PySem.W.Frag} {fs : List (PySem.W.Frag → Bool)} (h : (fs.all fun f => f K) = true) (i : Nat) {f : PySem.W.Frag → Bool} (e : fs[i]? = some f := by rfl) : f K = true := List.all_eq_true.mp h f (List.mem_of_getElem? e)
/-- a tuple at an address -/
def tupAB (K : PySem.W.Frag) (a : Addr) (vs : List He.Dv) : Bool := match K.lookup a with
  | some o => decide (o.cls = .type "tuple") && (match o.data with
    | .seq its _ => decide (its.size ≤ sizeLine) && He.relAll (vs.map (He.Dv.v K)) its.toList
    | _ => false)
  | none => false
theorem tupAB_ok {K : PySem.W.Frag} {a : Addr} {vs : List He.Dv} (h : tupAB K a vs = true) (H : Hp) : SqT K H a (vs.map (He.Dv.v K)) := by
  unfold tupAB at h
  split at h
  · next o e =>
    obtain ⟨h1, h2⟩ := Bool.and_eq_true_iff.mp h
    split at h2
    · next its n e2 =>
      obtain ⟨h3, h4⟩ := Bool.and_eq_true_iff.mp h2
      exact .inr ⟨o, its, n, e, of_decide_eq_true h1, e2, of_decide_eq_true h3, He.relAll_ok h4⟩
    · cases h2
  · cases h
def strDv (ys : List Str) : List He.Dv := ys.map .str
theorem dps_strs {K : PySem.W.Frag} {F : Hp} : ∀ ys : List Str, Dps K F (ys.map .str) ((strDv ys).map (He.Dv.v K))
  | [] => Dps.nil
  | y :: ys => Dps.cons dps (dps_strs ys)
theorem dp_tupS {K : PySem.W.Frag} {a : Addr} {ys : List Str} (h : tupAB K a (strDv ys) = true) (F : Hp) : Dp K F (.tup (ys.map .str)) (.ref a) := dpt (tupAB_ok h F) (dps_strs ys)
section
variable {Γ : Ct} {δ : Dl} {μ : Mu} {Q : D → Mu → Prop} {pos : Pos} {x : Str} {a : Addr}
/-- a name of the top that is an object: a class, a def, a constant -/
theorem ed_gref (hm : Γ.X.mg x = some (.ref a)) (q : Q (.ref a) μ) (hg : Gl Γ.X x := by rfl) (hd : (x == ("__debug__" : Str)) = false := by decide +kernel) : ed Γ (.Name x pos) δ μ Q := ed_glob hm (v := .ref a) rfl (fun _ => dpr) q hg hd
theorem ed_gtup {ys : List Str} (hm : Γ.X.mg x = some (.ref a)) (h : tupAB Γ.X.K a (strDv ys) = true) (q : Q (.tup (ys.map .str)) μ) (hg : Gl Γ.X x := by rfl) (hd : (x == ("__debug__" : Str)) = false := by decide +kernel) : ed Γ (.Name x pos) δ μ Q := ed_glob hm (v := .ref a) rfl (dp_tupS h) q hg hd
/-- a built-in type as a value -/
theorem ed_ty {n : String} (hm : Γ.X.mg x = none) (hv : bootBuiltins x = some (.type n)) (q : Q (.ty n) μ) (hg : Gl Γ.X x := by rfl) (hn : x ≠ "__name__" := by decide +kernel) (hd : (x == ("__debug__" : Str)) = false := by decide +kernel) : ed Γ (.Name x pos) δ μ Q := fun F σ H h =>
  we_of (pe_bltn (v := .ty n) hg hm hv rfl hn hd) (PostE.here (v := .ty n) h (by rw [Dp]) q)
end
/-! ### isinstance -/
/-- an own class whose instances tell their class -/
structure ClsT (K : PySem.W.Frag) (C : Addr) : Prop where
  c : Cls K C
  ha : PySem.W.findIn K (.ref C) "__class__" = some (some (.builtin "object.__class__"))
  hn : PySem.W.specialIn K (.builtin "object.__class__") "__get__" = some (some (.builtin "getset_descriptor.__get__"))
  htk : PySem.W.takesIn K (.builtin "object.__class__") = some true
  hm : PySem.W.mroIn K C (.type "object") = some true
def clsTB (K : PySem.W.Frag) (C : Addr) : Bool := He.eqO (PySem.W.findIn K (.ref C) "__class__") (some (some (.builtin "object.__class__"))) && (He.eqO (PySem.W.specialIn K (.builtin "object.__class__") "__get__") (some (some (.builtin "getset_descriptor.__get__"))) && (decide (PySem.W.takesIn K (.builtin "object.__class__") = some true) && decide (PySem.W.mroIn K C (.type "object") = some true)))
theorem clsT_ok {K : PySem.W.Frag} {C : Addr} (c : Cls K C) (h : clsTB K C = true) : ClsT K C := by
  obtain ⟨h1, h⟩ := Bool.and_eq_true_iff.mp h
  obtain ⟨h2, h⟩ := Bool.and_eq_true_iff.mp h
  obtain ⟨h3, h4⟩ := Bool.and_eq_true_iff.mp h
  exact ⟨c, He.eqO_ok h1, He.eqO_ok h2, of_decide_eq_true h3, of_decide_eq_true h4⟩
/-- the class of a datum -/
inductive TyQ (K : PySem.W.Frag) (μ : Mu) : D → Value → Prop where
  | non : TyQ K μ .non (.type "NoneType")
  | bl (b) : TyQ K μ (.bl b) (.type "bool")
  | int (i) : TyQ K μ (.int i) (.type "int")
  | str (x) : TyQ K μ (.str x) (.type "str")
  | lst (xs) : TyQ K μ (.lst xs) (.type "list")
  | rl (xs) : TyQ K μ (.rl xs) (.type "list")
  | tup (xs) : TyQ K μ (.tup xs) (.type "tuple")
  | dK (ks xs) : TyQ K μ (.dK ks xs) (.type "dict")
  | own {p xs} (h : (p, Cell.lst xs) ∈ μ) : TyQ K μ (.ref p) (.type "list")
  | obj {C} (c : ClsT K C) (ns xs) : TyQ K μ (.obj C ns xs) (.ref C)
  | ins {C p dx ns xs} (c : ClsT K C) (h : (p, Cell.ins C dx ns xs) ∈ μ) : TyQ K μ (.ref p) (.ref C)
section
variable {Γ : Ct} {δ : Dl} {μ : Mu} {Q : D → Mu → Prop}
theorem tyQ_run {F H : Hp} {σ : L2.St} {d : D} {v : V} {t : Value} (a : At Γ F δ μ σ H) (r : Dp Γ.X.K F d v) (h : TyQ Γ.X.K μ d t) : TyX Γ.X.K H v t := by
  cases h with
  | non => rw [Dp] at r; subst r; exact .base .non
  | bl b => rw [Dp] at r; subst r; exact .base (.bl b)
  | int i => rw [Dp] at r; subst r; exact .base (.int i)
  | str x => rw [Dp] at r; subst r; exact .base (.str x)
  | lst xs =>
    obtain ⟨p, vs, rfl, h1, _⟩ := dpL r
    exact .base (.lst (a.sx.sub _ _ h1))
  | rl xs =>
    obtain ⟨p, vs, rfl, h1, _⟩ := dpRl r
    rcases h1 with (h1 | ⟨o, h1⟩) | ⟨o, its, n, e, c, _⟩
    · exact .base (.lst (a.sx.sub _ _ h1))
    · exact .base (.frz (a.sx.sub _ _ h1))
    · exact .kList e c
  | tup xs =>
    obtain ⟨p, vs, rfl, h1, _⟩ := dpT r
    rcases h1 with (h1 | ⟨o, h1⟩) | ⟨o, its, n, e, c, _⟩
    · exact .base (.tup (a.sx.sub _ _ h1))
    · exact .fTuple (a.sx.sub _ _ h1)
    · exact .kTuple e c
  | dK ks xs =>
    rw [Dp] at r
    obtain ⟨p, kvs, rfl, h1, _⟩ := r
    exact .base (.dK (a.sx.sub _ _ h1))
  | own h =>
    rw [dpR r]
    obtain ⟨vs, h1, _⟩ := a.sx.cells _ h
    exact .base (.lst h1)
  | obj c ns xs =>
    rw [Dp] at r
    obtain ⟨p, dx, gs, rfl, h1, _⟩ := r
    exact .base (.ins (a.sx.sub _ _ h1) c.c c.ha c.hn c.htk c.hm)
  | ins c h =>
    rw [dpR r]
    obtain ⟨gs, h1, _⟩ := a.sx.cells _ h
    exact .base (.ins h1 c.c c.ha c.hn c.htk c.hm)
/-- a class as a datum -/
def clsD : D → Option Value
  | .ty n => some (.type n)
  | .ref C => some (.ref C)
  | _ => none
theorem clsD_run {K : PySem.W.Frag} {F : Hp} {d : D} {v : V} {u : Value} (h : clsD d = some u) (r : Dp K F d v) : ClsV v u := by
  cases d <;> cases h
  · rw [Dp] at r; subst r; exact .ty _
  · rw [dpR r]; exact .own _
theorem clsDs_run {K : PySem.W.Frag} {F : Hp} : ∀ {ds : List D} {vs : List V} {us : List Value}, ds.map clsD = us.map some → Dps K F ds vs → Paired ClsV vs us
  | [], vs, [], _, r => by rw [r.unnil]; exact .nil
  | [], _, _ :: _, h, _ => by cases h
  | _ :: _, _, [], h, _ => by cases h
  | d :: ds, vs, u :: us, h, r => by
    obtain ⟨v, ws, rfl, r1, r2⟩ := r.uncons
    injection h with h1 h2
    exact .cons (clsD_run h1 r1) (clsDs_run h2 r2)
theorem cld_isi {x c : D} {t u : Value} {b : Bool} (ht : TyQ Γ.X.K μ x t) (hc : clsD c = some u) (hk : PySem.W.kitOne Γ.X.K t u = some b) (q : Q (.bl b) μ) : cld Γ (.builtin "isinstance") [x, c] δ μ Q := cld_of call_isi fun F σ H vs a r0 => by
  obtain ⟨v, ws, rfl, r1, r2⟩ := r0.uncons
  obtain ⟨w, zs, rfl, r3, r4⟩ := r2.uncons
  rw [r4.unnil]
  exact ⟨v, w, t, u, b, rfl, clsD_run hc r3, tyQ_run a r1 ht, hk, PostE.here a dpb q⟩
/-- the tuple of classes, wherever it stands -/
def rIsiS (K : PySem.W.Frag) : List V → Hp → VK → Prop := fun xs H Q => ∃ (x : V) (tp : Addr) (cs : List V) (t : Value) (us : List Value) (b : Bool), xs = [x, .ref tp] ∧ SqT K H tp cs ∧ Paired ClsV cs us ∧ TyX K H x t ∧ PySem.W.kitAny K t us = some b ∧ Q (.bl b) H
theorem call_isiS {X : Cx} : CallR X (.builtin "isinstance") (rIsiS X.K) := fun pins s σ H xs us Q I r h => by
  obtain ⟨x, tp, cs, t, ws, b, rfl, hT, k, ty, e, q⟩ := h
  obtain ⟨u1, u2, rfl, r1, r2⟩ := vals2 r
  obtain rfl : u2 = Value.ref tp := r2
  obtain ⟨P, Z, p, hx⟩ := kit_of I r1 ty
  obtain ⟨its, rv, ⟨⟨oc, od, dt, sl⟩, h1, h2, n, h3⟩, _⟩ := I.tuple hT
  obtain rfl := ClsV.all k rv
  dsimp only at h2 h3
  subst h2 h3
  exact PySem.W.kia_tup Z I.kIn p h1 e hx fun tk => ⟨.bl b, H, I.tok tk, rfl, q⟩
theorem cld_isiT {x : D} {cs : List D} {us : List Value} {t : Value} {b : Bool} (ht : TyQ Γ.X.K μ x t) (hc : cs.map clsD = us.map some) (hk : PySem.W.kitAny Γ.X.K t us = some b) (q : Q (.bl b) μ) : cld Γ (.builtin "isinstance") [x, .tup cs] δ μ Q := cld_of call_isiS fun F σ H vs a r0 => by
  obtain ⟨v, ws, rfl, r1, r2⟩ := r0.uncons
  obtain ⟨w, zs, rfl, r3, r4⟩ := r2.uncons
  rw [r4.unnil]
  obtain ⟨p, ws, rfl, h1, h2⟩ := dpT r3
  exact ⟨v, p, ws, t, us, b, rfl, Same.sqT a.sx.sub h1, clsDs_run hc h2, tyQ_run a r1 ht, hk, PostE.here a dpb q⟩
end
/-! ### membership among flat things -/
def flatD : D → Bool
  | .non | .bl _ | .int _ | .str _ => true
  | _ => false
def fE : D → D → Bool
  | .non, .non => true
  | .bl a, .bl b => a == b
  | .bl a, .int b => (if a then 1 else 0) == b
  | .int a, .bl b => a == (if b then 1 else 0)
  | .int a, .int b => a == b
  | .str a, .str b => a == b
  | _, _ => false
theorem flat_run {K : PySem.W.Frag} {F : Hp} {x : D} {v : V} (h : flatD x = true) (r : Dp K F x v) : flatV v = true := by
  cases x <;> cases h <;> (rw [Dp] at r; subst r; rfl)
theorem fE_run {K : PySem.W.Frag} {F : Hp} {x y : D} {v w : V} (h : flatD x = true) (h' : flatD y = true) (r : Dp K F x v) (r' : Dp K F y w) : eqV v w = fE x y := by
  cases x <;> cases h <;> (rw [Dp] at r; subst r) <;> cases y <;> cases h' <;> (rw [Dp] at r'; subst r'; rfl)
theorem flats_run {K : PySem.W.Frag} {F : Hp} : ∀ {xs : List D} {vs : List V}, xs.all flatD = true → Dps K F xs vs → vs.all flatV = true
  | [], vs, _, r => by rw [r.unnil]; rfl
  | x :: xs, vs, h, r => by
    obtain ⟨v, ws, rfl, r1, r2⟩ := r.uncons
    rw [List.all_cons, Bool.and_eq_true] at h ⊢
    exact ⟨flat_run h.1 r1, flats_run h.2 r2⟩
def inD (x : D) (xs : List D) : Bool := xs.any fun y => fE y x
theorem inD_run {K : PySem.W.Frag} {F : Hp} {x : D} {v : V} (h : flatD x = true) (r : Dp K F x v) : ∀ {xs : List D} {vs : List V}, xs.all flatD = true → Dps K F xs vs → inV v vs = inD x xs
  | [], vs, _, r => by rw [r.unnil]; rfl
  | y :: xs, vs, h', r' => by
    obtain ⟨w, ws, rfl, r1, r2⟩ := r'.uncons
    rw [List.all_cons, Bool.and_eq_true] at h'
    show (eqV w v || inV v ws) = (fE y x || inD x xs)
    rw [fE_run h'.1 h r1 r, inD_run h r h'.2 r2]
theorem inD_str (z : Str) : ∀ ys : List Str, inD (.str z) (ys.map .str) = decide (z ∈ ys)
  | [] => rfl
  | y :: ys => by
    show ((y == z) || inD (.str z) (ys.map .str)) = _
    rw [inD_str z ys]
    by_cases e : y = z
    · subst e; simp
    · have e' : ¬ z = y := fun h => e h.symm
      simp [e, e', List.mem_cons]
theorem inD_int (z : Int) : ∀ ys : List Int, inD (.int z) (ys.map .int) = decide (z ∈ ys)
  | [] => rfl
  | y :: ys => by
    show ((y == z) || inD (.int z) (ys.map .int)) = _
    rw [inD_int z ys]
    by_cases e : y = z
    · subst e; simp
    · have e' : ¬ z = y := fun h => e h.symm
      simp [e, e', List.mem_cons]
/-- a sequence as a datum -/
inductive SeqD (μ : Mu) : D → List D → Prop where
  | lst (xs) : SeqD μ (.lst xs) xs
  | rl (xs) : SeqD μ (.rl xs) xs
  | tup (xs) : SeqD μ (.tup xs) xs
  | own {p xs} (h : (p, Cell.lst xs) ∈ μ) : SeqD μ (.ref p) xs
section
variable {Γ : Ct} {δ : Dl} {μ : Mu} {Q : D → Mu → Prop} {x y : D} {xs : List D}
theorem seqD_run {F H : Hp} {σ : L2.St} {v : V} (a : At Γ F δ μ σ H) (h : SeqD μ y xs) (r : Dp Γ.X.K F y v) : ∃ p vs, v = .ref p ∧ (SqL Γ.X.K H p vs ∨ SqT Γ.X.K H p vs) ∧ Dps Γ.X.K F xs vs := by
  cases h with
  | lst =>
    obtain ⟨p, vs, rfl, h1, h2⟩ := dpL r
    exact ⟨p, vs, rfl, .inl (.inl (.inl (a.sx.sub _ _ h1))), h2⟩
  | rl =>
    obtain ⟨p, vs, rfl, h1, h2⟩ := dpRl r
    exact ⟨p, vs, rfl, .inl (a.sx.sub.seq h1), h2⟩
  | tup =>
    obtain ⟨p, vs, rfl, h1, h2⟩ := dpT r
    exact ⟨p, vs, rfl, .inr (Same.sqT a.sx.sub h1), h2⟩
  | own h =>
    rw [dpR r]
    obtain ⟨vs, h1, h2⟩ := a.sx.cells _ h
    exact ⟨_, vs, rfl, .inl (.inl (.inl h1)), h2⟩
theorem opd_in (hs : SeqD μ y xs) (hx : flatD x = true) (hf : xs.all flatD = true) (q : Q (.bl (inD x xs)) μ) : opd Γ (compareOp .In) x y δ μ Q := opd_of op_in_seq fun F σ H vx vy a r1 r2 => by
  obtain ⟨p, vs, rfl, h1, h2⟩ := seqD_run a hs r2
  refine ⟨p, vs, rfl, h1, flat_run hx r1, flats_run hf h2, ?_⟩
  rw [if_neg (by decide), inD_run hx r1 hf h2]
  exact PostE.here a dpb q
theorem opd_notIn (hs : SeqD μ y xs) (hx : flatD x = true) (hf : xs.all flatD = true) (q : Q (.bl (!inD x xs)) μ) : opd Γ (compareOp .NotIn) x y δ μ Q := opd_of op_notIn_seq fun F σ H vx vy a r1 r2 => by
  obtain ⟨p, vs, rfl, h1, h2⟩ := seqD_run a hs r2
  refine ⟨p, vs, rfl, h1, flat_run hx r1, flats_run hf h2, ?_⟩
  rw [if_pos rfl, inD_run hx r1 hf h2]
  exact PostE.here a dpb q
theorem flat_strs (ys : List Str) : (ys.map D.str).all flatD = true := by rw [List.all_map]; exact List.all_eq_true.mpr fun _ _ => rfl
theorem flat_ints (ys : List Int) : (ys.map D.int).all flatD = true := by rw [List.all_map]; exact List.all_eq_true.mpr fun _ _ => rfl
theorem opd_inS {z : Str} (ys : List Str) (hs : SeqD μ y xs) (e : xs = ys.map .str) (q : Q (.bl (decide (z ∈ ys))) μ) : opd Γ (compareOp .In) (.str z) y δ μ Q := by
  subst e; exact opd_in hs rfl (PD.flat_strs ys) (by rw [inD_str]; exact q)
theorem opd_notInS {z : Str} (ys : List Str) (hs : SeqD μ y xs) (e : xs = ys.map .str) (q : Q (.bl (!decide (z ∈ ys))) μ) : opd Γ (compareOp .NotIn) (.str z) y δ μ Q := by
  subst e; exact opd_notIn hs rfl (PD.flat_strs ys) (by rw [inD_str]; exact q)
end
end PD
/-! PD11: own ==, !=, str of data. -/
namespace PD
open PySem PySem.Spec PyProof.Rows L2
end PD
/-! PD12: starred items, written dicts, texts. -/
namespace PD
open PySem PySem.Spec PyProof.Rows L2
section
variable {Γ : Ct} {δ : Dl} {μ : Mu} {pos : Pos}
theorem star_list {X : Cx} {pins : List (Addr × Obj)} {σ : L2.St} {H : Hp} {s : Shared} {a : Addr} {xs : List V} {E : Value → Shared → Prop} {Q : List Value → Shared → Prop} (I : Inv X pins σ H s) (h : SqL X.K H a xs) (hQ : ∀ us s', Inv X pins σ H s' → Vals xs us → Q us s') : PySem.W.StarOf (model X.prog X.w) X.A E (.ref a) Q s := by
  obtain ⟨its, r, ⟨o, n, ho, hc, _, hd⟩, hz⟩ := I.list h
  have hl := r.length
  unfold PySem.W.StarOf notIterableAtAll
  refine wpAny_bind (wpAny_specialOf (T := "list") ⟨o, ho, hc⟩ PySem.F.slot_list_iter.lookup (wpAny_pure ⟨rfl, ?_⟩))
  exact wpAny_collect_seq a (.inl rfl) ho hc hd (fun h' hk => hQ _ _ (I.kept (t' := s.toks) hk) (by simpa using r)) (by rw [List.size_toArray]; omega)
theorem ea_star {e : Expr} {p : Pos} {es : List Expr} {Q : List D → Mu → Prop} (h : ed Γ e δ μ fun x μ1 => ∃ xs, SeqD μ1 x xs ∧ ea Γ es δ μ1 fun ds μ2 => (xs ++ ds).length ≤ sizeLine ∧ Q (xs ++ ds) μ2)
    (he : starEach (.Starred e p :: es) Γ.X.env = (true, eval e Γ.X.env) :: starEach es Γ.X.env := by rfl) : ea Γ (.Starred e p :: es) δ μ Q := fun F σ H a pos pins s I => by
  refine PySem.W.items_star (thn (h F σ H a pins s I) fun u s1 ⟨v, H1, I1, rv, F1, x, μ1, s1', a1, r1, xs, hs, q⟩ => ?_) he
  obtain ⟨q', vs, rfl, hq, r2⟩ := seqD_run a1 hs r1
  obtain rfl : u = Value.ref q' := rv
  have fin : ∀ us s', Inv Γ.X pins σ H1 s' → Vals vs us → wpAny (model Γ.X.prog Γ.X.w) Γ.X.A (spliced (backTo pos (starEach es Γ.X.env))) (fun ws s3 => AP Γ.X pins σ (PostA Γ F δ σ Q) (us ++ ws) s3) Γ.X.xe s' := fun us s' I' ru =>
    thn (q F1 σ H1 a1 pos pins s' I') fun ws s3 ⟨zs, H2, I2, rw', F2, ds, μ2, s2', a2, r3, hz, q2⟩ => ⟨vs ++ zs, H2, I2, ru.append rw', F2, xs ++ ds, μ2, s1'.trans s2', a2, (r2.mono s2').append r3, q2⟩
  rcases hq with hq | hq
  · exact star_list I1 hq fin
  · exact star_tup I1 hq fin
end
/-! ### the top with its written dicts -/
structure TXW (fa : List He.Fa) (fn : List He.DefD) (ts : List He.Tab) (ex : PySem.W.Frag → Bool) (w : World) (K : PySem.W.Frag) (mg : Str → Option Value) : Prop extends TX fa fn ex K mg where
  tab : ∀ (i : Nat) (t : He.Tab), ts[i]? = some t → ∃ es n, KDict K w (t.1 K) es n
theorem txw_of {fa : List He.Fa} {fn : List He.DefD} {ex : PySem.W.Frag → Bool} {K : PySem.W.Frag} {mg : Str → Option Value} {ts : List He.Tab} {tf : List He.Defn} {w : World} {h h' : Heap} (X : K.In h) (G : h.Ns mainGlobals mg) (c : He.SaysX fa fn ts tf ex w h' K) : TXW fa fn ts ex w K mg where
  toTX := tx_of X G c
  tab := fun i _ e => c.t.tab i e
/-- a written dict of tuples of texts -/
def kdB (K : PySem.W.Frag) (a : Addr) (kvs : List (Str × List Str)) : Bool := kvs.all fun q => match PySem.W.nsIn K a q.1 with
  | some (some (.ref p)) => tupAB K p (strDv q.2)
  | _ => false
theorem kdB_ok {K : PySem.W.Frag} {a : Addr} {kvs : List (Str × List Str)} (h : kdB K a kvs = true) {z : Str} {ys : List Str} (hq : (z, ys) ∈ kvs) : ∃ p, PySem.W.nsIn K a z = some (some (.ref p)) ∧ ∀ F, Dp K F (.tup (ys.map .str)) (.ref p) := by
  have z1 := List.all_eq_true.mp h _ hq
  dsimp only at z1
  split at z1
  · next p e => exact ⟨p, e, dp_tupS z1⟩
  · cases z1
section
variable {Γ : Ct} {δ : Dl} {μ : Mu} {Q : D → Mu → Prop} {a : Addr} {es : Array DictEntry} {n : Nat}
theorem ixd_kdT {kvs : List (Str × List Str)} {z : Str} (ys : List Str) (hd : ∃ es n, KDict Γ.X.K Γ.X.w a es n) (h : kdB Γ.X.K a kvs = true) (hq : (z, ys) ∈ kvs) (q : Q (.tup (ys.map .str)) μ) : ixd Γ (.ref a) (.str z) δ μ Q := ixd_of ix_kdict fun F σ H vx vy at_ r1 r2 => by
  obtain ⟨es, n, k⟩ := hd
  obtain ⟨p, e, hD⟩ := kdB_ok h hq
  rw [dpR r1, dpS r2]
  exact ⟨a, z, .ref p, rfl, rfl, ⟨es, n, .ref p, k.at_, k.lit, e, rfl⟩, PostE.here at_ (hD F) q⟩
theorem mtd_startswith {x z : Str} (q : Q (.bl (Txt.startswith x z)) μ) : mtd Γ "str.startswith" (.str x) [.str z] δ μ Q := mtd_of mt_startswith fun F σ H vx vs a r1 r2 => by
  rw [dpS r1]
  obtain ⟨v, rfl, r3⟩ := r2.one
  rw [dpS r3]
  exact ⟨x, z, rfl, rfl, PostE.here a dpb q⟩
end
/-! ### own classes, told apart -/
theorem kit_same {K : PySem.W.Frag} {C : Addr} : PySem.W.kitOne K (.ref C) (.ref C) = some true := by
  unfold PySem.W.kitOne; rw [if_pos (by simp)]
theorem ifd {p : Prop} [Decidable p] {A B : Prop} (h1 : p → A) (h2 : ¬p → B) : if decide p = true then A else B := by
  by_cases h : p
  · rw [if_pos (by simpa using h)]; exact h1 h
  · rw [if_neg (by simpa using h)]; exact h2 h
theorem ifn {p : Prop} [Decidable p] {A B : Prop} (h1 : ¬p → A) (h2 : p → B) : if (!decide p) = true then A else B := by
  by_cases h : p
  · rw [if_neg (by simpa using h)]; exact h2 h
  · rw [if_pos (by simpa using h)]; exact h1 h
theorem ifb {b : Bool} {A B : Prop} (h1 : b = true → A) (h2 : b = false → B) : if b = true then A else B := by
  cases b
  · rw [if_neg (by decide)]; exact h2 rfl
  · rw [if_pos rfl]; exact h1 rfl
/-! ### a comprehension whose items are drawn -/
section
variable {Γ : Ct} {elt tg iter : Expr} {ifs : List Expr} {scope : Scope} {vs : List Nat} {δ : Dl} {μ : Mu} {Q : List D → Mu → Prop}
theorem lcd_all (W : Mu → Prop) (R : D → Prop) (h : eid Γ tg iter δ μ fun ds S μ1 => ds.length ≤ 1000000 ∧ W μ1 ∧ (∀ μ', W μ' → S μ') ∧
      (∀ d ∈ ds, ∀ μ', W μ' → allB Γ scope fun Γb => gv Γb tg d vs (wipeD δ vs) μ' fun δ2 μ2 => allB Γ scope fun Γc => eif Γc ifs δ2 μ2 fun b μ3 => if b = true then allB Γ scope fun Γd => ed Γd elt δ2 μ3 fun r μ4 => R r ∧ W μ4 else W μ3) ∧
      ∀ acc μ', (∀ r ∈ acc, R r) → acc.length ≤ ds.length → W μ' → Q acc μ') : lcd Γ elt tg iter ifs scope vs δ μ Q := fun F σ H a => wi_mono (h F σ H a) fun J H1 ⟨F1, ds, S, μ1, s1, a1, ok, hz, hW, hS, hb, hq⟩ => by
  refine ⟨F1, ds, S, μ1, s1, a1, ok, hz, fun i acc μ' => (∀ r ∈ acc, R r) ∧ acc.length ≤ i ∧ W μ', ⟨fun _ z => (List.not_mem_nil z).elim, Nat.le_refl _, hW⟩, fun i acc μ' _ z => ⟨hS μ' z.2.2, z.2.1⟩, ?_, fun acc μ' z => hq acc μ' z.1 z.2.1 z.2.2⟩
  rintro i d acc μ' hd ⟨z1, z2, z3⟩
  intro s H C cl fp F0 μ0 H0 F2 σ2 H2 v a2 r2
  refine wg_mono (hb d (List.mem_of_getElem? hd) μ' z3 s H C cl fp F0 μ0 H0 F2 σ2 H2 v a2 r2) fun σ3 H3 ⟨w3, F3, δ3, μ3, s3, a3, q3⟩ => ⟨w3, F3, δ3, μ3, s3, a3, ?_⟩
  intro s' H' C' cl' fp' F0' μ0' H0'
  have key : ∀ {b : Bool} {μ4 : Mu}, (if b = true then allB Γ scope fun Γd => ed Γd elt δ3 μ4 fun r μ5 => R r ∧ W μ5 else W μ4) →
      if b = true then allB Γ scope fun Γd => ed Γd elt δ3 μ4 fun r μ5 => (∀ r' ∈ acc ++ [r], R r') ∧ (acc ++ [r]).length ≤ i + 1 ∧ W μ5 else (∀ r' ∈ acc, R r') ∧ acc.length ≤ i + 1 ∧ W μ4 := fun {b μ4} z => by
    cases b with
    | false => exact ⟨z1, Nat.le_succ_of_le z2, z⟩
    | true =>
      intro s2 H2' C2 cl2 fp2 F02 μ02 H02 F5 σ5 H5 a5
      refine we_mono (z s2 H2' C2 cl2 fp2 F02 μ02 H02 F5 σ5 H5 a5) fun v' H6 ⟨F6, r, μ6, s6, a6, r6, q1, q2⟩ => ⟨F6, r, μ6, s6, a6, r6, fun r' hr' => ?_, by rw [List.length_append]; exact Nat.succ_le_succ z2, q2⟩
      rcases List.mem_append.mp hr' with e | e
      · exact z1 r' e
      · rw [List.mem_singleton.mp e]; exact q1
  have q4 := q3 s' H' C' cl' fp' F0' μ0' H0'
  match ifs, q4 with
  | [], q4 => exact key (b := true) (μ4 := μ3) q4
  | [c], q4 => exact fun F5 σ5 H5 a5 => wt_mono (q4 F5 σ5 H5 a5) fun b H6 ⟨F6, μ6, s6, a6, q6⟩ => ⟨F6, μ6, s6, a6, key q6⟩
end
theorem strs_of {P : Str → Prop} : ∀ {acc : List D}, (∀ r ∈ acc, ∃ t, r = .str t ∧ P t) → ∃ ts : List Str, acc = ts.map .str ∧ (∀ t ∈ ts, P t) ∧ ts.length = acc.length
  | [], _ => ⟨[], rfl, fun _ h => (List.not_mem_nil h).elim, rfl⟩
  | r :: acc, h => by
    obtain ⟨t, rfl, ht⟩ := h _ List.mem_cons_self
    obtain ⟨ts, rfl, h1, h2⟩ := strs_of (acc := acc) fun r hr => h r (List.mem_cons_of_mem _ hr)
    exact ⟨t :: ts, rfl, fun z hz => (List.mem_cons.mp hz).elim (fun e => e ▸ ht) (h1 z), congrArg Nat.succ h2⟩
/-! ### lists of texts compared -/
def strsOk (l : List Str) : Prop := ∀ t ∈ l, PyData.strOk t = true
theorem oks_strs : ∀ {l : List Str}, strsOk l → D.oks (l.map .str) = true
  | [], _ => by rw [List.map_nil, D.oks]
  | t :: l, h => by
    rw [List.map_cons, D.oks, D.ok, PyData.canLay0, h t List.mem_cons_self, oks_strs fun z hz => h z (List.mem_cons_of_mem _ hz)]; rfl
theorem depthAll_strs : ∀ (l : List Str), PyData.depthAll (D.pys (l.map .str)) ≤ 1
  | [] => by rw [List.map_nil, D.pys, PyData.depthAll]; omega
  | z :: l => by
    have := depthAll_strs l
    rw [List.map_cons, D.pys, D.py, PyData.depthAll, PyData.depth]; omega
theorem ok_strs {l : List Str} (h : strsOk l) : (D.lst (l.map .str)).ok = true := by rw [D.ok]; exact oks_strs h
theorem depth_strs (l : List Str) : (D.lst (l.map .str)).py.depth ≤ 64 := by
  have := depthAll_strs l
  rw [D.py, PyData.depth]; omega
/-! ### isinstance of built-in types -/
theorem kb_NoneType_str : kitB "NoneType" "str" = some false := by decide +kernel
theorem kb_NoneType_int : kitB "NoneType" "int" = some false := by decide +kernel
theorem kb_NoneType_bool : kitB "NoneType" "bool" = some false := by decide +kernel
theorem kb_NoneType_list : kitB "NoneType" "list" = some false := by decide +kernel
theorem kb_NoneType_tuple : kitB "NoneType" "tuple" = some false := by decide +kernel
theorem kb_bool_str : kitB "bool" "str" = some false := by decide +kernel
theorem kb_bool_int : kitB "bool" "int" = some true := by decide +kernel
theorem kb_bool_bool : kitB "bool" "bool" = some true := by decide +kernel
theorem kb_bool_list : kitB "bool" "list" = some false := by decide +kernel
theorem kb_bool_tuple : kitB "bool" "tuple" = some false := by decide +kernel
theorem kb_int_str : kitB "int" "str" = some false := by decide +kernel
theorem kb_int_int : kitB "int" "int" = some true := by decide +kernel
theorem kb_int_bool : kitB "int" "bool" = some false := by decide +kernel
theorem kb_int_list : kitB "int" "list" = some false := by decide +kernel
theorem kb_int_tuple : kitB "int" "tuple" = some false := by decide +kernel
theorem kb_str_str : kitB "str" "str" = some true := by decide +kernel
theorem kb_str_int : kitB "str" "int" = some false := by decide +kernel
theorem kb_str_bool : kitB "str" "bool" = some false := by decide +kernel
theorem kb_str_list : kitB "str" "list" = some false := by decide +kernel
theorem kb_str_tuple : kitB "str" "tuple" = some false := by decide +kernel
theorem kb_list_str : kitB "list" "str" = some false := by decide +kernel
theorem kb_list_int : kitB "list" "int" = some false := by decide +kernel
theorem kb_list_bool : kitB "list" "bool" = some false := by decide +kernel
theorem kb_list_list : kitB "list" "list" = some true := by decide +kernel
theorem kb_list_tuple : kitB "list" "tuple" = some false := by decide +kernel
theorem kb_tuple_str : kitB "tuple" "str" = some false := by decide +kernel
theorem kb_tuple_int : kitB "tuple" "int" = some false := by decide +kernel
theorem kb_tuple_bool : kitB "tuple" "bool" = some false := by decide +kernel
theorem kb_tuple_list : kitB "tuple" "list" = some false := by decide +kernel
theorem kb_tuple_tuple : kitB "tuple" "tuple" = some true := by decide +kernel
theorem kb_dict_str : kitB "dict" "str" = some false := by decide +kernel
theorem kb_dict_bool : kitB "dict" "bool" = some false := by decide +kernel
theorem kb_dict_list : kitB "dict" "list" = some false := by decide +kernel
theorem kb_dict_tuple : kitB "dict" "tuple" = some false := by decide +kernel
theorem ka_NoneType {K : PySem.W.Frag} : PySem.W.kitAny K (.type "NoneType") [.type "list", .type "tuple"] = some false := kitAny_cons (kit_ty kb_NoneType_list) (fun _ => kitAny_cons (kit_ty kb_NoneType_tuple) (fun _ => kitAny_nil) fun h => nomatch h) fun h => nomatch h
theorem ka_bool {K : PySem.W.Frag} : PySem.W.kitAny K (.type "bool") [.type "list", .type "tuple"] = some false := kitAny_cons (kit_ty kb_bool_list) (fun _ => kitAny_cons (kit_ty kb_bool_tuple) (fun _ => kitAny_nil) fun h => nomatch h) fun h => nomatch h
theorem ka_int {K : PySem.W.Frag} : PySem.W.kitAny K (.type "int") [.type "list", .type "tuple"] = some false := kitAny_cons (kit_ty kb_int_list) (fun _ => kitAny_cons (kit_ty kb_int_tuple) (fun _ => kitAny_nil) fun h => nomatch h) fun h => nomatch h
theorem ka_str {K : PySem.W.Frag} : PySem.W.kitAny K (.type "str") [.type "list", .type "tuple"] = some false := kitAny_cons (kit_ty kb_str_list) (fun _ => kitAny_cons (kit_ty kb_str_tuple) (fun _ => kitAny_nil) fun h => nomatch h) fun h => nomatch h
theorem ka_list {K : PySem.W.Frag} : PySem.W.kitAny K (.type "list") [.type "list", .type "tuple"] = some true := kitAny_cons (kit_ty kb_list_list) (fun h => nomatch h) fun _ => rfl
theorem ka_tuple {K : PySem.W.Frag} : PySem.W.kitAny K (.type "tuple") [.type "list", .type "tuple"] = some true := kitAny_cons (kit_ty kb_tuple_list) (fun _ => kitAny_cons (kit_ty kb_tuple_tuple) (fun h => nomatch h) fun _ => rfl) fun h => nomatch h
theorem ka_dict {K : PySem.W.Frag} : PySem.W.kitAny K (.type "dict") [.type "list", .type "tuple"] = some false := kitAny_cons (kit_ty kb_dict_list) (fun _ => kitAny_cons (kit_ty kb_dict_tuple) (fun _ => kitAny_nil) fun h => nomatch h) fun h => nomatch h
section
variable {Γ : Ct} {δ : Dl} {μ : Mu} {Q : D → Mu → Prop}
/-- isinstance(x, (list, tuple)) of a sequence -/
theorem cld_isiSeq {x : D} {xs : List D} (hs : SeqD μ x xs) (q : Q (.bl true) μ) : cld Γ (.builtin "isinstance") [x, .tup [.ty "list", .ty "tuple"]] δ μ Q := by
  cases hs with
  | lst => exact cld_isiT (.lst _) (us := [.type "list", .type "tuple"]) rfl ka_list q
  | rl => exact cld_isiT (.rl _) (us := [.type "list", .type "tuple"]) rfl ka_list q
  | tup => exact cld_isiT (.tup _) (us := [.type "list", .type "tuple"]) rfl ka_tuple q
  | own h => exact cld_isiT (.own h) (us := [.type "list", .type "tuple"]) rfl ka_list q
/-- .. of what is none -/
theorem cld_isiNoSeq {x : D} {a : String} (h : TyQ Γ.X.K μ x (.type a)) (hk : PySem.W.kitAny Γ.X.K (.type a) [.type "list", .type "tuple"] = some false) (q : Q (.bl false) μ) : cld Γ (.builtin "isinstance") [x, .tup [.ty "list", .ty "tuple"]] δ μ Q := cld_isiT h (us := [.type "list", .type "tuple"]) rfl hk q
end
/-! ### any sequence -/
section
variable {Γ : Ct} {δ : Dl} {μ : Mu} {Q : D → Mu → Prop} {x : D} {xs : List D}
theorem cld_len_seq (hs : SeqD μ x xs) (q : Q (.int xs.length) μ) : cld Γ (.builtin "len") [x] δ μ Q := by
  cases hs with
  | lst => exact cld_len_lst q
  | rl => exact cld_len_rl q
  | tup => exact cld_len_tup q
  | own h => exact cld_len_own h q
theorem cld_tuple_rl (q : Q (.tup xs) μ) : cld Γ (.type "tuple") [.rl xs] δ μ Q := cld_of call_tuple_of fun F σ H vs a r0 => by
  obtain ⟨v, rfl, r⟩ := r0.one
  obtain ⟨p1, vs, rfl, h1, h2⟩ := dpRl r
  refine ⟨p1, vs, rfl, .inl ⟨a.sx.sub.seq h1, fun p hp => ?_⟩⟩
  exact PostE.new a hp (dpt (.inl (.inl upd_same)) (h2.mono (same_upd (a.sx.sub.free hp)))) q
theorem cld_tuple_seq (hs : SeqD μ x xs) (q : Q (.tup xs) μ) : cld Γ (.type "tuple") [x] δ μ Q := by
  cases hs with
  | lst => exact cld_tuple_lst q
  | rl => exact cld_tuple_rl q
  | tup => exact cld_tuple_tup q
  | own h => exact cld_tuple_own h q
theorem itd_seq {tg : Expr} {R : List D → (Mu → Prop) → Mu → Prop} (hs : SeqD μ x xs) (q : R xs (fun μ' => SeqD μ' x xs) μ) : itd Γ tg x δ μ R := by
  have yes : ∀ {y : D}, (∀ μ', SeqD μ' y xs) → (fun μ' => SeqD μ' y xs) = fun _ => True := fun h => funext fun μ' => propext ⟨fun _ => trivial, fun _ => h μ'⟩
  cases hs with
  | lst => rw [yes fun μ' => .lst _] at q; exact itd_lst q
  | rl => rw [yes fun μ' => .rl _] at q; exact itd_rl q
  | tup => rw [yes fun μ' => .tup _] at q; exact itd_tup q
  | @own p xs h =>
    have e : (fun μ' => SeqD μ' (.ref p) xs) = fun μ' => (p, Cell.lst xs) ∈ μ' := funext fun μ' => propext ⟨fun z => by cases z; assumption, fun z => .own z⟩
    rw [e] at q; exact itd_own h q
end
def strOf : D → Str | .str x => x | _ => ""
theorem SeqD.cons {μ : Mu} {x : D} {xs : List D} (h : SeqD μ x xs) (c : Addr × Cell) : SeqD (c :: μ) x xs := by
  cases h with
  | lst => exact .lst _
  | rl => exact .rl _
  | tup => exact .tup _
  | own h => exact .own (List.mem_cons_of_mem _ h)
/-! ### defs with defaults -/
theorem CallD.mkD {P : Program} {w : World} {K : PySem.W.Frag} {mg : Str → Option Value} {base : Heap} {k : Nat} {f : Addr} {sp : SpD} {x qual : Str} {params : Arguments} {body : List Stmt} {scope : Scope} {dvs : List V} {kws : List (Str × V)} {fd : FuncData} {ps : List Str} (F : FunD K x qual params body scope dvs kws f fd) (G : ∀ {b : Md}, FnD b P w K mg base k f fd ps sp)
    (n j : Nat) (hd : dvs ≠ []) (hn : n + (dvs.length - j) = ps.length) (dds : List D) (hdd : DfD K dds (dvs.drop j))
    (h : ∀ (T : Addr) (kV doc pm : Value) (an : Option Addr) (cdv ct : Value) (us its : List Value), us.length = n → its.length = dvs.length →
      ∃ k, bindArgs (PySem.W.fnOf x qual params body scope (.ref T) kV doc pm an cdv ct) ⟨us, []⟩ = seqItems? (.ref T) >>= k ∧ k (some its.toArray) = pure (ps.zip (us ++ its.drop j))) : CallD P w K mg base k f ps.length dds sp := by
  obtain ⟨ds, v, b⟩ := F.binds1 n j hd hn h
  exact ⟨fun _ => ⟨⟨fd, ps, _, ds, rfl, b, v, hdd, G⟩, F.kp⟩⟩
/-! ### texts that are joined -/
theorem len_joinL (S : List Nat) : ∀ ps : List (List Nat), (TL.joinL S ps).length ≤ (ps.map (·.length)).sum + ps.length * S.length
  | [] => by simp [TL.joinL]
  | [p] => by simp [TL.joinL]
  | p :: q :: r => by
    have ih := len_joinL S (q :: r)
    show (p ++ (S ++ TL.joinL S (q :: r))).length ≤ _
    rw [List.length_append, List.length_append, List.map_cons, List.sum_cons, List.length_cons, Nat.succ_mul]
    omega
theorem len_join (z : Str) (ys : List Str) : (Txt.join z ys).length ≤ (ys.map (·.length)).sum + ys.length * z.length := by
  have h := len_joinL (TL.tl z) (ys.map TL.tl)
  rw [← TL.tl_join, ← TL.join_eq, List.map_map, List.length_map] at h
  exact h
theorem sum_le {ys : List Str} {n : Nat} (h : ∀ y ∈ ys, y.length ≤ n) : (ys.map (·.length)).sum ≤ ys.length * n := by
  induction ys with
  | nil => simp
  | cons y ys ih =>
    have h1 := h y List.mem_cons_self
    have h2 := ih fun z hz => h z (List.mem_cons_of_mem _ hz)
    rw [List.map_cons, List.sum_cons, List.length_cons, Nat.succ_mul]
    omega
section
variable {Γ : Ct} {δ : Dl} {μ : Mu} {Q : D → Mu → Prop} {x : D} {xs : List D}
theorem mtd_joinS {z : Str} (ys : List Str) (hs : SeqD μ x xs) (e : xs = ys.map .str) (hl : (ys.map (·.length)).sum + ys.length * z.length ≤ 16777216) (q : Q (.str (Txt.join z ys)) μ) :
    mtd Γ "str.join" (.str z) [x] δ μ Q := mtd_of mt_join fun F σ H vx vs a r1 r2 => by
  rw [dpS r1]
  obtain ⟨v, rfl, r3⟩ := r2.one
  obtain ⟨p, vs, rfl, h1, h2⟩ := seqD_run a hs r3
  subst e
  obtain rfl := Dps.strs h2
  exact ⟨z, p, ys, rfl, rfl, h1, hl, PostE.here a dps q⟩
end
/-! ### a cell that is needed no more -/
section
variable {Γ : Ct} {e : Expr} {δ : Dl} {μ : Mu} {Q : D → Mu → Prop}
theorem cell_some {K : PySem.W.Frag} {F H : Hp} {p : Addr} {c : Cell} (h : CellOk K F H p c) : ∃ o, H p = some o := by
  cases c with
  | lst ds => obtain ⟨vs, h, _⟩ := h; exact ⟨_, h⟩
  | ins C dx ns ds => obtain ⟨gs, h, _⟩ := h; exact ⟨_, h⟩
  | dK ks ds => obtain ⟨kvs, h, _⟩ := h; exact ⟨_, h⟩
  | dT ks ds => obtain ⟨kvs, h, _⟩ := h; exact ⟨_, h⟩
  | dF od gs ds => exact ⟨_, h.1⟩
  | raw R st => obtain ⟨o, h1, h2⟩ := h; exact ⟨o, h1⟩
  | set S n => exact ⟨_, h⟩
theorem ed_drop (h : ed Γ e δ μ fun d μ' => ∃ μa c μb, μ' = μa ++ c :: μb ∧ Q d (μa ++ μb)) : ed Γ e δ μ Q := fun F σ H a => by
  refine we_mono (h F σ H a) fun v H' ⟨F', d, μ', s', a', r, μa, c, μb, e, q⟩ => ?_
  subst e
  obtain ⟨p, c⟩ := c
  obtain ⟨o, ho⟩ := cell_some (a'.sx.cells (p, c) mem_mid)
  have sF : Same F' (upd F' p o) := same_upd (a'.sx.off (p, c) mem_mid)
  exact ⟨_, d, _, s'.trans sF, a'.freeze ho, r.mono sF, q⟩
end
end PD
/-! PD13: the order of the cells, cells given up; truth values by repr and is. -/
namespace PD
open PySem PySem.Spec PyProof.Rows L2
section
variable {Γ : Ct} {F : Hp} {δ : Dl} {μ μ' : Mu} {σ : L2.St} {H : Hp} {e : Expr} {rest : List Stmt} {st : Stmt} {E : En} {Q : D → Mu → Prop}
theorem dom_perm (p : μ.Perm μ') : (dom μ).Perm (dom μ') := p.map _
theorem At.perm (a : At Γ F δ μ σ H) (p : μ.Perm μ') : At Γ F δ μ' σ H where
  st := ⟨a.st.ext, a.st.keep, a.st.new, fun b hb => a.st.cell b ((dom_perm p).mem_iff.mpr hb)⟩
  sx := ⟨a.sx.sub, fun c hc => a.sx.off c (p.mem_iff.mpr hc), (dom_perm p).nodup_iff.mp a.sx.nd, fun c hc => a.sx.cells c (p.mem_iff.mpr hc)⟩
  fr := a.fr
theorem sds_mu (μ' : Mu) (p : μ.Perm μ') (h : sds Γ rest δ μ' E) : sds Γ rest δ μ E := fun F σ H a => h F σ H (a.perm p)
theorem sds_drop {μa μb : Mu} {c : Addr × Cell} (h : sds Γ rest δ (μa ++ μb) E) : sds Γ rest δ (μa ++ c :: μb) E := fun F σ H a => by
  obtain ⟨p, c⟩ := c
  obtain ⟨o, ho⟩ := cell_some (a.sx.cells (p, c) mem_mid)
  have sF : Same F (upd F p o) := same_upd (a.sx.off (p, c) mem_mid)
  exact wss_mono (h _ σ H (a.freeze ho)) (En.up sF)
end
section
variable {Γ : Ct} {δ : Dl} {μ : Mu} {Q : D → Mu → Prop}
theorem call_repr_bl {X : Cx} : CallR X (.builtin "repr") (fun xs H Q => ∃ b, xs = [.bl b] ∧ Q (.str (if b then "True" else "False")) H) := fun pins s σ H xs us Q I r h => by
  obtain ⟨b, rfl, q⟩ := h
  obtain ⟨u, rfl, e⟩ := vals1 r
  obtain rfl : u = Value.bool b := e
  exact PySem.P.repr_of_bool ⟨.str _, H, I.tok _, ⟨_, rfl⟩, q⟩
theorem cld_repr_bl {b : Bool} (q : Q (.str (if b then "True" else "False")) μ) : cld Γ (.builtin "repr") [.bl b] δ μ Q := cld_of call_repr_bl fun F σ H vs a r0 => by
  obtain ⟨v, rfl, r⟩ := r0.one
  rw [dpB r]; exact ⟨b, rfl, PostE.here a dps q⟩
theorem op_isB {X : Cx} : OpR X (compareOp .Is) (fun x y H Q => ∃ a b, x = .bl a ∧ y = .bl b ∧ Q (.bl (a == b)) H) := fun pins s σ H x y v u Q I rx ry h => by
  obtain ⟨a, b, rfl, rfl, q⟩ := h
  obtain rfl : v = Value.bool a := rx
  obtain rfl : u = Value.bool b := ry
  exact wpAny_is_plain rfl (fin_bl I q (by cases a <;> cases b <;> rfl))
theorem opd_isB {a b : Bool} (q : Q (.bl (a == b)) μ) : opd Γ (compareOp .Is) (.bl a) (.bl b) δ μ Q := opd_of op_isB fun F σ H vx vy a' r1 r2 => by
  rw [dpB r1, dpB r2]; exact ⟨a, b, rfl, rfl, PostE.here a' dpb q⟩
end
section
variable {Γ : Ct} {δ : Dl} {μ : Mu} {Q : D → Mu → Prop}
theorem depth_bl (b : Bool) : (D.bl b).py.depth ≤ 64 := by rw [D.py, PyData.depth]; omega
theorem eqD_bl (a b : Bool) : eqD (.bl a) (.bl b) = (a == b) := by unfold eqD; rw [D.py, D.py, PyData.eqv]
theorem opd_eqB {a b : Bool} (hu : Γ.X.A.units + 64 < cLine) (q : Q (.bl (a == b)) μ) : opd Γ (compareOp .Eq) (.bl a) (.bl b) δ μ Q := opd_eqV hu (.same _) (.same _) (by rw [D.ok]) (by rw [D.ok]) (depth_bl a) (depth_bl b) (by rw [eqD_bl]; exact q)
theorem opd_neB {a b : Bool} (hu : Γ.X.A.units + 64 < cLine) (q : Q (.bl (!(a == b))) μ) : opd Γ (compareOp .NotEq) (.bl a) (.bl b) δ μ Q := opd_neV hu (.same _) (.same _) (by rw [D.ok]) (by rw [D.ok]) (depth_bl a) (depth_bl b) (by rw [eqD_bl]; exact q)
end
end PD
/-! PD14: own exceptions that keep one thing, over any built-in base: made, raised. -/
namespace PySem
namespace PDX
open PySem.W PySem.Calls PyProof.Rows Builtin Builtin.ObjectAttr
section
variable {prog : Program} {w : World} {A : Around} {E : Value → Shared → Prop} {R : Result → Shared → Prop} {hp : Heap} {g : Array GenState} {d : Drawn} {t : Nat} {os : OsState}
/-- the first thing that is stored on an exception: its dict is laid -/
theorem first_store {B : String} {tl : List Value} {K : Frag} {name : Str} {tk : Tok} {v : Value} {x C : Addr} {fv : Array Value} {cd : ClassData} (SF : StoreFacts B tl "object.__setattr__" "object") (X : K.In hp)
    (hx : hp.get? x = some { cls := .ref C, data := .fields fv }) (ho : excOver K C tl = true) (hcd : clsIn K C = some cd) (hh : cd.hasDict = true) (ha : findIn K (.ref C) name = some none)
    (k : ∀ h' tk' dx, (∀ b o, b ≠ x → hp.get? b = some o → h'.get? b = some o) → hp.objs.size ≤ dx → dx ≠ x → h'.get? x = some { cls := .ref C, dict := some dx, data := .fields fv } → h'.Ns1 dx (fun y => if y = name then some v else none) → R (.ok (.ret .none)) ⟨h', g, d, tk', os⟩) :
    codeAny (model prog w) A (.call (.builtin "object.__setattr__") ⟨[.ref x, .str name tk, v], []⟩) R ⟨hp, g, d, t, os⟩ := by
  have J : InstAt hp x { cls := .ref C, data := .fields fv } C none := ⟨hx, rfl, rfl, trivial⟩
  have no : takerIn K C name = some none := by unfold takerIn; rw [ha]; rfl
  have far : x ≠ hp.objs.size := Nat.ne_of_lt (Heap.lt_size hx)
  have LC : Looks (model prog w) hp (classData C) cd := looks_clsIn X hcd
  refine osa_openX (od := none) SF X J ho no fun b => ?_
  show wpAny _ _ (storeInOwnDict (.ref x) (.ref C) (.str name tk) name v b) _ _ _
  obtain ⟨c1, c2, c3, c4, c5, c6, c7, c8, c9, c10, c11⟩ := cd
  dsimp only at hh
  subst hh
  unfold storeInOwnDict ownDictForStores
  repeat (first | with_reducible refine PySem.HandSPX.store_in_new ?_ ?_ | with_reducible refine wpAny_loadPart_at hx ?_ | with_reducible refine LC.at ?_ | wp_step)
  · exact ⟨_, #[], _, (Heap.get?_update_ne _ _ _ _ far.symm).trans (Heap.get?_push_at rfl rfl), rfl, fun e he => absurd he (by simp), fun _ => rfl⟩
  · intro h' tk' hn' hs
    have hx1 : (hp.push { cls := .type "dict", data := .dict #[] }).get? x = some { cls := .ref C, data := .fields fv } := Heap.get?_push_of_some _ hx
    exact k h' tk' hp.objs.size (fun b o hb ho => (hs.2 b (Nat.ne_of_lt (Heap.lt_size ho))).trans ((Heap.get?_update_ne _ _ _ _ hb).trans (Heap.get?_push_of_some _ ho))) (Nat.le_refl _) far.symm
      ((hs.2 x far).trans (Heap.get?_update_self _ hx1 rfl)) hn'
end
end PDX
end PySem
namespace PD
open PySem PySem.Spec PyProof.Rows L2
theorem nm_vis {N : List Str} {sc : Scope} {i : Nat} {x : Str} (n : Nm N sc i x) : Vis sc x := by
  rcases n.loc with h | h
  · exact .inl h
  · exact .inr (.inl h)
/-- a built-in base of exceptions -/
structure Bas (B newId initId : String) (tl : List Value) : Prop where
  F : ExcBaseFacts B newId initId tl
  S : PySem.StoreFacts B tl "object.__setattr__" "object"
/-- an own class over it -/
structure OexG (newId : String) (tl : List Value) (K : PySem.W.Frag) (C : Addr) : Prop where
  cls : ∃ nm q N bs bm sn sub ab col dd k0 k1 k2 k3 k5, K.lookup C = some (excClassObj nm q C N bs bm true sn sub ab col dd k0 k1 k2 k3 k5 newId) ∧ PySem.W.excTail tl bm = true
  sa : PySem.W.findIn K (.ref C) "__setattr__" = some (some (.builtin "object.__setattr__"))
  exC : PySem.W.subIn K (.ref C) (.type "BaseException") = some true
  tyC : PySem.W.typeIn K (.ref C) = some (.type "type")
  kC : PySem.W.keepIn K (.ref C) = true
section
variable {X : Cx} {B newId initId : String} {tl : List Value}
/-- self.f = y, the first one -/
theorem st_first {pins : List (Addr × Obj)} {σ : L2.St} {H : Hp} {s : Shared} {a C : Addr} {f : Str} {y : V} {u : Value} {Q : Unit → Shared → Prop} {E : Value → Shared → Prop} {A : Around} (Z : Bas B newId initId tl) (T : OexG newId tl X.K C) (I : Inv X pins σ H s) (e : H a = some (exo a C none))
    (hno : PySem.W.findIn X.K (.ref C) f = some none) (ry : RelV y u) (h : ∀ dx s', H dx = none → dx ≠ a → Inv X pins σ (upd (upd H dx (exd dx [(f, y)])) a (exo a C (some dx))) s' → Q () s') : wpAny (model X.prog X.w) A (setAttr (.ref a) f u) Q E s := by
  obtain ⟨nm, q, N, bs, bm, sn, sub, ab, col, dd, k0, k1, k2, k3, k5, look, tail⟩ := T.cls
  have cl : PySem.W.clsIn X.K C = some { name := nm, bases := bs, mro := .ref C :: bm, ns := N, qualname := q, hasDict := true, slotNames := sn, subclasses := sub, abstract := ab, collection := col, hasDel := false } := by unfold PySem.W.clsIn; rw [look] <;> rfl
  have over : PySem.W.excOver X.K C tl = true := by
    unfold PySem.W.excOver
    rw [cl]
    show (C == C && PySem.W.excTail tl bm) = true
    rw [tail, beq_self_eq_true]; rfl
  obtain ⟨t1, stands⟩ := exo_at I.hok e
  obtain ⟨hp, g, d, t, os⟩ := s
  refine PySem.W.set_plain I.kIn (ox := { cls := .ref C, dict := none, data := .fields #[.ref t1, .none, .none, .none, .bool false, .none] }) (od := none) ⟨stands, rfl, rfl, trivial⟩ T.sa (PySem.PDX.first_store Z.S I.kIn stands over cl rfl hno fun h' tk' dx keep dn dne hx hn => ?_)
  have free : H dx = none := I.hok.fresh dn
  have old : ∀ {b : Addr} {o : Obj}, hp.get? b = some o → b ≠ dx := fun {b o} z => Nat.ne_of_lt (Nat.lt_of_lt_of_le (Heap.lt_size z) dn)
  have nota : ∀ {b : Addr}, H b = none → b ≠ a := fun {b} n z => by rw [z, e] at n; cases n
  have un : Un X.fs [] H (upd (upd H dx (exd dx [(f, y)])) a (exo a C (some dx))) hp h' :=
    ⟨fun b o z n _ _ => keep b o (nota n) z, fun b o z n _ _ => ⟨o.slots, keep b o (nota n) z⟩, fun b o z n _ => (upd_ne (nota n)).trans ((upd_ne (old z)).trans n), fun b o z _ => by
        by_cases q : b = a
        · exact ⟨_, q ▸ hx⟩
        · exact ⟨o, keep b o q z⟩, fun b xs z => (upd_ne (at_ne e z exo_tup)).trans ((upd_ne (ne_of_none z free)).trans z), fun b o v z => (upd_ne (at_ne e z exo_frz)).trans ((upd_ne (ne_of_none z free)).trans z),
      fun b ps z => ⟨#[], by rw [upd_ne (at_ne e z exo_tbl), upd_ne (ne_of_none z free), z]; simp⟩⟩
  refine h dx _ free dne (I.un (t' := tk') un fun b o z => ?_)
  by_cases q : b = a
  · subst q
    rw [upd_same] at z
    cases z
    exact exo_ok hx
  · rw [upd_ne q] at z
    by_cases q2 : b = dx
    · subst q2
      rw [upd_same] at z
      cases z
      exact exd_ok hn (relO_put (fs := []) ry fun _ => True.intro)
    · rw [upd_ne q2] at z
      refine (I.hok b o z).stay (fun c v hc y => keep c v ?_ y) (fun c hc => (upd_ne (at_ne e hc exo_own)).trans ((upd_ne (ne_of_none hc free)).trans hc)) fun c xs hc => (upd_ne (at_ne e hc exo_tup)).trans ((upd_ne (ne_of_none hc free)).trans hc)
      rcases hc with rfl | hc
      · exact q
      · exact at_ne e hc exo_own
theorem ps_stFirst {o e : Expr} {to te : TE} {f : Str} {p' pos : Pos} (Z : Bas B newId initId tl) (ho : PE X o to) (he : PE X e te) (hs : swapsWith e (some (.Attribute o f p')) pos.line X.env = pure false := by rfl) :
    PS X (.Assign [.Attribute o f p'] e pos) (fun D σ H => te σ H fun y H1 => to σ H1 fun x H2 => ∃ a C : Addr, x = .ref a ∧ OexG newId tl X.K C ∧ PySem.W.findIn X.K (.ref C) f = some none ∧ H2 a = some (exo a C none) ∧ ∀ dx, H2 dx = none → dx ≠ a → D.nx σ (upd (upd H2 dx (exd dx [(f, y)])) a (exo a C (some dx)))) where
  run := fun pins s σ H D I h => plainObj_wpAny_Assign_Attribute (thn (he.run pins s σ H _ I h) fun v s1 ⟨y, H1, I1, r1, q1⟩ => thn (ho.run pins s1 σ H1 _ I1 q1) fun u s2 ⟨x, H2, I2, r2, a, C, ex, T, hno, ea, q⟩ => by
    subst ex
    obtain rfl : u = Value.ref a := r2
    exact st_first Z T I2 ea hno r1 fun dx s' n ne J => ⟨σ, _, J, q dx n ne⟩) hs
/-- C(e, ..): what is made has None for its context -/
theorem pmk_gN {e : Expr} {es : List Expr} {ta : TA} {p pos : Pos} {CX : CXT} {x : Str} {C fI : Addr} {k : Nat} {fd : FuncData} {ps : List Str} {sp : Sp} {ds : List Value} {dvs : List V} (Z : Bas B newId initId tl) (T : OexG newId tl X.K C)
    (iC : PySem.W.findIn X.K (.ref C) "__init__" = some (some (.ref fI))) (tI : PySem.W.typeIn X.K (.ref fI) = some (.type "function")) (G : L2.FnOk X.prog X.w X.K X.mg X.base CX k fI fd ps sp) (hr : L2.Room (k + 1) X.A) (hb : Binds X.K fd ps ds) (hd : Vals dvs ds) (hx : Passes CX X (fun _ _ _ => False))
    (hg : Gl X x) (hm : X.mg x = some (.ref C)) (ha : PA X (e :: es) ta) (hdb : (x == ("__debug__" : Str)) = false) (he : starEach (e :: es) X.env = (false, eval e X.env) :: starEach es X.env) (hpl : (backTo pos (starEach es X.env)).any (·.1) = false) :
    L2N.PMk X (.Call (.Name x p) (e :: es) [] pos) (tMkO C sp dvs ta) := fun pins s σ H Q I h => by
  obtain ⟨nm, q, N, bs, bm, sn, sub, ab, col, dd, k0, k1, k2, k3, k5, look, tail⟩ := T.cls
  refine wpAny_Call_Name_kw (ld_glob I hg hm (PySem.W.callWith_K (h₀ := X.base) I.ok.mod.kin T.kC (thn (ha.run pos pins s σ H _ I h) fun us s1 ⟨vs, H1, I1, r1, hz, q1⟩ => ⟨I1.kIn, ?_⟩) he hpl) hdb)
  obtain ⟨hp, g, dr, tk, os⟩ := s1
  let n := hp.objs.size
  let hp2 := (hp.push (PySem.W.kdv_tup us)).push (PySem.HandSPX.excO C n)
  have nn : n ≤ n + 1 := Nat.le_succ _
  have want := q1 (n + 1) (I1.hok.fresh nn)
  have keep : ∀ b o, hp.get? b = some o → hp2.get? b = some o := fun b o z => Heap.get?_push_of_some _ (Heap.get?_push_of_some _ z)
  have there : hp2.get? (n + 1) = some (PySem.HandSPX.excO C n) := by
    show ((hp.push (PySem.W.kdv_tup us)).push (PySem.HandSPX.excO C hp.objs.size)).get? (hp.objs.size + 1) = _
    heap_get
  have I2 : Inv X pins σ (upd H1 (n + 1) (exo (n + 1) C none)) ⟨hp2, g, dr, tk, os⟩ := I1.laid (t' := tk) (a := n + 1) (o := exo (n + 1) C none) (h' := hp2) keep nn (exo_ok there)
  have rr : Vals (V.ref (n + 1) :: (vs ++ dvs)) (Value.ref (n + 1) :: (us ++ ds)) := .cons rfl (r1.append hd)
  have ln : (Value.ref (n + 1) :: us ++ ds).length = ps.length := (rr.length.symm.trans (G.len _ _ _ _ want) :)
  have small : us.length ≤ sizeLine := by rw [← Paired.length r1, sizeLine_eq]; omega
  have go := G.run _ X.stack _ _ ⟨Value.ref (n + 1) :: us, []⟩ _ _ _ (fun _ _ _ => False) (hr.make C us []) (I2.env0.make C us []) (hb _ (Value.ref (n + 1) :: us) I2.kIn ln) rr want
  refine wpAny_call (PySem.HandSPX.call_own Z.F (fun Y => PySem.W.excTail_contains Y bm tail) (I1.kIn _ _ look) (PySem.W.looks_findIn I1.kIn iC) (fun self => PySem.W.bind_fn I1.kIn self tI) small (codeAny_mono go fun res s' z => ?_))
  match res, z with
  | .error er, z => exact hx pins σ _ _ er s' I2 z
  | .ok (.ret u), z =>
    obtain ⟨v, H2, os2, bare2, un2, hok2, rv, rfl, d, fs, ea, ed, hd1, q2⟩ := z
    obtain ⟨h2, g2, d2, t2, os'⟩ := s'
    obtain ⟨t0, G2, J, kG, ge, hoe, na⟩ := mk_end0 (d2 := d2) (t2 := t2) I1 nn keep un2 hok2 os2 bare2 ea ed hd1
    exact ⟨rv, n + 1, _, _, ⟨G2, g2, d2, t2, os'⟩, _, .ref C, some d, rfl, J, kG, ge, hoe, ⟨rfl, rfl, fun vs hv => by cases hv; rfl⟩, rfl, rfl, na, rfl, bare2, raises_own T.exC T.tyC, q2⟩
end
/-! ### def __init__(self, x): self.f = x -/
def spOexG (newId : String) (tl : List Value) (K : PySem.W.Frag) (fl : Str) : Sp := fun vs H Q _ => ∃ a C v, vs = [.ref a, v] ∧ OexG newId tl K C ∧ PySem.W.findIn K (.ref C) fl = some none ∧ H a = some (exo a C none) ∧ ∀ dx, H dx = none → dx ≠ a → Q .non (upd (upd H dx (exd dx [(fl, v)])) a (exo a C (some dx)))
section
variable {P : Program} {w : World} {K : PySem.W.Frag} {mg : Str → Option Value} {base : Heap} {B newId initId : String} {tl : List Value}
theorem fn_oexG {fl xs xx qual : Str} {params : Arguments} {scope : Scope} {kws : List (Str × V)} {fI : Addr} {fd : FuncData} {N : List Str} {k : Nat} {p1 p2 p3 p4 : Pos} (Z : Bas B newId initId tl) (F : FunD K "__init__" qual params [.Assign [.Attribute (.Name xs p1) fl p2] (.Name xx p3) p4] scope [] kws fI fd) (S : FnScope N [xs, xx] scope) (n0 : Nm N scope 0 xs) (n1 : Nm N scope 1 xx) :
    L2.FnOk P w K mg base (L2.CX P w) (k + 1) fI fd [xs, xx] (spOexG newId tl K fl) := by
  refine F.ok S (fun vs H Q E h => ?_) (fun cdv A outer s H vs Q E hr h => ?_)
  · obtain ⟨a, C, v, rfl, _⟩ := h; rfl
  · obtain ⟨a, C, v, rfl, T, hno, ha, q⟩ := h
    exact ⟨_, pss_one (ps_stFirst Z (pe_var (i := 0) n0.at_ (nm_vis n0) n0.dbg n0.cls) (pe_var (i := 1) n1.at_ (nm_vis n1) n1.dbg n1.cls)), v, rfl, .ref a, rfl, a, C, rfl, T, hno, ha, fun dx h1 h2 => q dx h1 h2⟩
end
/-- an own exception class whose __init__ keeps one thing under fl -/
structure ExcMk (P : Program) (w : World) (K : PySem.W.Frag) (mg : Str → Option Value) (base : Heap) (C : Addr) (fl : Str) : Prop where
  hno : PySem.W.findIn K (.ref C) fl = some none
  ex : ∃ B newId initId tl fI fd ps, Bas B newId initId tl ∧ OexG newId tl K C ∧ PySem.W.findIn K (.ref C) "__init__" = some (some (.ref fI)) ∧ PySem.W.typeIn K (.ref fI) = some (.type "function") ∧ Binds K fd ps [] ∧ L2.FnOk P w K mg base (L2.CX P w) 1 fI fd ps (spOexG newId tl K fl)
section
variable {Γ : Ct} {δ : Dl} {μ : Mu} {E : En} {e : Expr} {x fl : Str} {C : Addr} {p p2 pos : Pos} {j : Nat}
theorem pass_none {X : Cx} : Passes (L2.CX X.prog X.w) X (fun _ _ _ => False) := fun pins σ H s e s' I h => by
  obtain ⟨_, _, _, _, _, _, _, _, _, _, _, _, z⟩ := h
  exact z.elim
theorem upd_del {H : Hp} {a dx : Addr} {o o1 o2 o3 : HO} (ha : H a = none) (hne : dx ≠ a) : upd (del (upd (upd (upd H a o) dx o1) a o2) a) dx o3 = upd H dx o3 := by
  funext b
  by_cases e : b = dx
  · subst e; rw [upd_same, upd_same]
  · rw [upd_ne e, upd_ne e]
    by_cases e2 : b = a
    · subst e2; rw [del_same, ha]
    · rw [del_ne e2, upd_ne e2, upd_ne e, upd_ne e2]
theorem ps_raiseB {b : Md} {X : Cx} {W : WX} {e : Expr} {t : L2.St → Hp → XK → Prop} {pos : Pos} (hc : X.calm = true) (tk : TkB b X W) (he : L2N.PMk X e t) : PS X (.Raise (some e) none pos) (fun _ σ H => t σ H fun cls d H' => W cls d σ H') := by
  exact L2N.ps_raise hc tk.n he
theorem sd_raiseOwn (hc : Γ.X.calm = true) (M : ExcMk Γ.X.prog Γ.X.w Γ.X.K Γ.X.mg Γ.X.base C fl) (hr : Room j Γ.X.A) (hj : 2 ≤ j) (hm : Γ.X.mg x = some (.ref C)) (h : ed Γ e δ μ fun d μ' => Γ.W (.ref C) [fl] [d] δ μ') (hg : Gl Γ.X x := by rfl) (hdb : (x == ("__debug__" : Str)) = false := by decide +kernel)
    (he : starEach [e] Γ.X.env = (false, eval e Γ.X.env) :: starEach [] Γ.X.env := by rfl) (hpl : (backTo p2 (starEach [] Γ.X.env)).any (·.1) = false := by rfl) : sd Γ (.Raise (some (.Call (.Name x p) [e] [] p2)) none pos) δ μ E := fun F σ H a => by
  obtain ⟨B, newId, initId, tl, fI, fd, ps, Z, T, i1, i2, b, G⟩ := M.ex
  refine ws_of (ps_raiseB hc Γ.tk (pmk_gN Z T i1 i2 G (hr.mono hj).r b .nil pass_none hg hm (pa_cons pe_we pa_nil he) hdb he hpl)) ?_
  refine we_mono (h F σ H a) fun v H1 ⟨F1, d, μ1, s1, a1, r1, q⟩ => ?_
  refine ⟨by simp, fun a' ha' => ⟨a', C, v, rfl, T, M.hno, upd_same, fun dx hdx hne => ⟨rfl, dx, [(fl, v)], upd_same, ?_, ?_, ?_⟩⟩⟩
  · rw [upd_ne hne, upd_same]
  · rw [upd_ne hne] at hdx; exact hdx
  · rw [upd_ne hne] at hdx
    rw [upd_del ha' hne]
    have a2 := a1.pers (.xd [(fl, v)]) hdx
    exact ⟨upd F1 dx (.xd [(fl, v)]), μ1, δ, [fl], [d], a2.st, a2.sx, a2.fr, .inr ⟨dx, [(fl, v)], rfl, upd_same, rfl, Dps.cons (r1.mono (same_upd (a1.sx.sub.free hdx))) Dps.nil⟩, q⟩
end
end PD
/-! PD15: try .. except X as e. -/
namespace PD
open PySem PySem.Spec PyProof.Rows L2
/-- a judgement in all contexts of a try's body, whose exceptions are wished by W' -/
def inTr (Γ : Ct) (W' : XD) (J : Ct → Prop) : Prop := ∀ (F : Hp) (μ : Mu) (H : Hp) (pn : List (Addr × Obj)) (xe : Value → Shared → Prop) (tk : Takes (Γ.X.tr pn xe) (WofD Γ.X.K F μ H W')) (po : PassesOwn (model Γ.X.prog Γ.X.w) Γ.X.A Γ.X.env xe), J ⟨Γ.X.tr pn xe, F, μ, H, W', false, tk, po⟩
theorem takes_no {X : Cx} {K : PySem.W.Frag} {F : Hp} {μ : Mu} {H : Hp} : Takes X (WofD K F μ H fun _ _ _ _ _ => False) := fun u s' x => by
  obtain ⟨_, _, _, _, _, _, _, _, _, _, _, _, _, _, _, _, _, _, _, _, _, _, _, _, _, z⟩ := x
  exact z.elim
/-- the context of an except suite -/
@[reducible] def Ct.suite (Γ : Ct) (a : Addr) (oe : Obj) (pn : List (Addr × Obj)) (F : Hp) (μ : Mu) (H : Hp) : Ct := ⟨Γ.X.suite a ((a, oe) :: pn), F, μ, H, fun _ _ _ _ _ => False, false, takes_no, PassesOwn.never⟩
end PD
/-! PD16: what a suite asks of its exception. -/
namespace PD
open PySem PySem.Spec PyProof.Rows L2
end PD
/-! PD17: the class of an exception that keeps things. -/
namespace PD
open PySem PySem.Spec PySem.Calls PyProof.Rows L2
end PD
/-! PD18: what the top tells of own exception classes, by looking. -/
namespace PD
open PySem PySem.Spec PyProof.Rows L2
/-- an own class over any built-in base -/
def oexgLook (newId : String) (tl : List Value) (K : PySem.W.Frag) (C : Addr) : Bool := match K.lookup C with
  | some ⟨.type "type", _, .cls cd, sl⟩ => (match cd.mro, sl.toList with
    | .ref c :: bm, [_, _, _, _, some (.builtin n), _] => decide (c = C) && (decide (n = newId) && (PySem.W.excTail tl bm && (cd.hasDict && !cd.hasDel)))
    | _, _ => false)
  | _ => false
theorem oexgLook_ok {newId : String} {tl : List Value} {K : PySem.W.Frag} {C : Addr} (h : oexgLook newId tl K C = true) : ∃ nm q N bs bm sn sub ab col dd k0 k1 k2 k3 k5, K.lookup C = some (excClassObj nm q C N bs bm true sn sub ab col dd k0 k1 k2 k3 k5 newId) ∧ PySem.W.excTail tl bm = true := by
  unfold oexgLook at h
  split at h
  · next dd cd sl look =>
    split at h
    · next c bm k0 k1 k2 k3 n k5 em es =>
      obtain ⟨e1, h⟩ := Bool.and_eq_true_iff.mp h
      obtain ⟨e2, h⟩ := Bool.and_eq_true_iff.mp h
      obtain ⟨e3, h⟩ := Bool.and_eq_true_iff.mp h
      obtain ⟨e4, e5⟩ := Bool.and_eq_true_iff.mp h
      have f1 := of_decide_eq_true e1
      have f2 := of_decide_eq_true e2
      have f5 : cd.hasDel = false := by simpa using e5
      clear e5 h
      obtain ⟨nm, bs, mro, ns, qn, hd, sn, sub, ab, col, del⟩ := cd
      obtain ⟨l⟩ := sl
      dsimp only at em es e4 f5
      subst em es e4 f5 f1 f2
      exact ⟨nm, qn, ns, bs, bm, sn, sub, ab, col, dd, k0, k1, k2, k3, k5, look, e3⟩
    · cases h
  · cases h
def oexgB (newId : String) (tl : List Value) (K : PySem.W.Frag) (C : Addr) : Bool := oexgLook newId tl K C && (He.eqO (PySem.W.findIn K (.ref C) "__setattr__") (some (some (.builtin "object.__setattr__"))) && (decide (PySem.W.subIn K (.ref C) (.type "BaseException") = some true) && (decide (PySem.W.typeIn K (.ref C) = some (.type "type")) && PySem.W.keepIn K (.ref C))))
theorem oexgB_ok {newId : String} {tl : List Value} {K : PySem.W.Frag} {C : Addr} (h : oexgB newId tl K C = true) : OexG newId tl K C := by
  obtain ⟨h1, h⟩ := Bool.and_eq_true_iff.mp h
  obtain ⟨h2, h⟩ := Bool.and_eq_true_iff.mp h
  obtain ⟨h3, h⟩ := Bool.and_eq_true_iff.mp h
  obtain ⟨h4, h5⟩ := Bool.and_eq_true_iff.mp h
  exact ⟨oexgLook_ok h1, He.eqO_ok h2, of_decide_eq_true h3, of_decide_eq_true h4, h5⟩
abbrev tlVE : List Value := [.type "ValueError", .type "Exception", .type "BaseException", .type "object"]
abbrev tlIE : List Value := [.type "IndexError", .type "LookupError", .type "Exception", .type "BaseException", .type "object"]
theorem basVE : Bas "ValueError" "ValueError.__new__" "ValueError.__init__" tlVE := ⟨PySem.F.excBase_ValueError, PySem.F.store_ValueError⟩
theorem basIE : Bas "IndexError" "IndexError.__new__" "IndexError.__init__" tlIE := ⟨PySem.F.excBase_IndexError, PySem.F.store_IndexError⟩
end PD
/-! PD19: any plain value. -/
namespace PD
open PySem PySem.Spec PyProof.Rows L2
/-- the built-in class of a datum that is no instance -/
def tyN : D → Option String
  | .non => some "NoneType"
  | .bl _ => some "bool"
  | .int _ => some "int"
  | .str _ => some "str"
  | .lst _ | .rl _ => some "list"
  | .tup _ => some "tuple"
  | .dK _ _ => some "dict"
  | _ => none
theorem tyQ_of {K : PySem.W.Frag} {μ : Mu} {x : D} {a : String} (h : tyN x = some a) : TyQ K μ x (.type a) := by
  cases x <;> cases h
  · exact .non
  · exact .bl _
  · exact .int _
  · exact .str _
  · exact .lst _
  · exact .rl _
  · exact .tup _
  · exact .dK _ _
/-- whether a plain value is of these classes -/
def isStrD : D → Bool | .str _ => true | _ => false
def isSeqD : D → Bool | .lst _ | .rl _ | .tup _ => true | _ => false
def isBlD : D → Bool | .bl _ => true | _ => false
section
variable {Γ : Ct} {δ : Dl} {μ : Mu} {Q : D → Mu → Prop} {x : D}
theorem cld_isStr (h : (tyN x).isSome = true) (q : Q (.bl (isStrD x)) μ) : cld Γ (.builtin "isinstance") [x, .ty "str"] δ μ Q := by
  cases x <;> first
    | exact cld_isi (tyQ_of rfl) rfl (kit_ty kb_NoneType_str) q | exact cld_isi (tyQ_of rfl) rfl (kit_ty kb_bool_str) q | exact cld_isi (tyQ_of rfl) rfl (kit_ty kb_int_str) q | exact cld_isi (tyQ_of rfl) rfl (kit_ty kb_str_str) q
    | exact cld_isi (tyQ_of rfl) rfl (kit_ty kb_list_str) q | exact cld_isi (tyQ_of rfl) rfl (kit_ty kb_tuple_str) q | exact cld_isi (tyQ_of rfl) rfl (kit_ty kb_dict_str) q | cases h
theorem cld_isBl (h : (tyN x).isSome = true) (q : Q (.bl (isBlD x)) μ) : cld Γ (.builtin "isinstance") [x, .ty "bool"] δ μ Q := by
  cases x <;> first
    | exact cld_isi (tyQ_of rfl) rfl (kit_ty kb_NoneType_bool) q | exact cld_isi (tyQ_of rfl) rfl (kit_ty kb_bool_bool) q | exact cld_isi (tyQ_of rfl) rfl (kit_ty kb_int_bool) q | exact cld_isi (tyQ_of rfl) rfl (kit_ty kb_str_bool) q
    | exact cld_isi (tyQ_of rfl) rfl (kit_ty kb_list_bool) q | exact cld_isi (tyQ_of rfl) rfl (kit_ty kb_tuple_bool) q | exact cld_isi (tyQ_of rfl) rfl (kit_ty kb_dict_bool) q | cases h
theorem cld_isSeq (h : (tyN x).isSome = true) (q : Q (.bl (isSeqD x)) μ) : cld Γ (.builtin "isinstance") [x, .tup [.ty "list", .ty "tuple"]] δ μ Q := by
  cases x <;> first
    | exact cld_isiNoSeq (a := "NoneType") (tyQ_of rfl) ka_NoneType q | exact cld_isiNoSeq (a := "bool") (tyQ_of rfl) ka_bool q | exact cld_isiNoSeq (a := "int") (tyQ_of rfl) ka_int q | exact cld_isiNoSeq (a := "str") (tyQ_of rfl) ka_str q
    | exact cld_isiSeq (.lst _) q | exact cld_isiSeq (.rl _) q | exact cld_isiSeq (.tup _) q | exact cld_isiNoSeq (a := "dict") (tyQ_of rfl) ka_dict q | cases h
end
end PD
/-! PD20: tests that are known. -/
namespace PD
theorem iteTr {b : Bool} {A B : Prop} (e : b = true) (h : A) : if b = true then A else B := by rw [if_pos e]; exact h
theorem iteFr {b : Bool} {A B : Prop} (e : b = false) (h : B) : if b = true then A else B := by subst e; exact h
open PySem PySem.Spec PyProof.Rows L2
theorem cutD_to {xs : List D} {r : Int} (h0 : 0 ≤ r) (h1 : r ≤ xs.length) : cutD xs none (some r) = xs.take r.toNat := by
  unfold cutD HT.sIx
  simp only [List.drop_zero, Nat.sub_zero]
  rw [if_neg (by omega), Nat.min_eq_left (by omega)]
theorem cutD_from {xs : List D} {r : Int} (h0 : 0 ≤ r) (h1 : r ≤ xs.length) : cutD xs (some r) none = xs.drop r.toNat := by
  unfold cutD HT.sIx
  simp only
  rw [if_neg (by omega), Nat.min_eq_left (by omega)]
  exact List.take_of_length_le (by rw [List.length_drop]; omega)
end PD
/-! PD21: classmethods, cls(..), try that never raises, split, index, comprehensions by place. -/
namespace PD
open PySem PySem.Spec PyProof.Rows L2 ClX
/-! ### a classmethod called on its class -/
section
variable {X : Cx} {b' : Md} {k : Nat} {C p g : Addr} {mc : Value} {fd : FuncData} {ps : List Str} {sp : Sp} {dvs : List V} {dus : List Value} {E : L2.St → XK} {o e : Expr} {es : List Expr} {m : Str} {pos apos : Pos} {ta : TE} {t : TA} {pl : Sem Bool}
theorem run_cmS {pins : List (Addr × Obj)} {σ : L2.St} {H : Hp} {s : Shared} {q : Addr} {Q : VK} {us : List Value} {vs : List V} (F : FnOk X.prog X.w X.K X.mg X.base b' k g fd ps sp) (hr : Room k X.A) (hb : Binds X.K fd ps dus) (hd : Vals dvs dus) (hx : PassesAt (CXB b' X.prog X.w) X σ (E σ)) (I : Inv X ((q, PySem.W.methodObj (.ref g) (.ref C)) :: pins) σ H s)
    (r : Vals vs us) (h : sp (.ref C :: (vs ++ dvs)) H Q (E σ)) : wpAny (model X.prog X.w) X.A (call (.ref q) us) (EP X pins σ Q) X.xe s := by
  have z : wpAny (model X.prog X.w) X.A (call (.ref q) us) (EP X ((q, PySem.W.methodObj (.ref g) (.ref C)) :: pins) σ Q) X.xe s :=
    wpAny_call (PySem.W.method_call (pin_at I) (by
      have r1 : Vals (V.ref C :: vs) (Value.ref C :: us) := .cons rfl r
      have r2 : Vals (V.ref C :: vs ++ dvs) (Value.ref C :: us ++ dus) := r1.append hd
      have hl : (Value.ref C :: us ++ dus).length = ps.length := by rw [← r2.length]; exact F.len _ _ _ _ h
      refine codeAny_mono (F.run X.A X.stack s H ⟨Value.ref C :: us, []⟩ (Value.ref C :: us ++ dus) (V.ref C :: vs ++ dvs) Q (E σ) hr I.env0 (hb s (Value.ref C :: us) I.kIn hl) r2 h) fun r s' hq => ?_
      cases r with
      | error e => exact hx _ H s e s' I hq
      | ok fl =>
        cases fl with
        | ret u => exact I.after hq
        | next => exact False.elim hq
        | brk => exact False.elim hq
        | cont => exact False.elim hq))
  exact thn z fun _ _ y => unpinE y
theorem pe_cmethS (he : PE X o ta) (r : CRead X.K C mc) (c : CMet X.K C mc m p g) (F : FnOk X.prog X.w X.K X.mg X.base b' k g fd ps sp) (hr : Room k X.A) (hb : Binds X.K fd ps dus) (hd : Vals dvs dus) (hx : ∀ σ, PassesAt (CXB b' X.prog X.w) X σ (E σ)) (ha : PA X (e :: es) t)
    (hst : starEach (e :: es) X.env = (false, eval e X.env) :: starEach es X.env := by rfl) (hpl : (backTo pos (starEach es X.env)).any (·.1) = false := by rfl)
    (ht : eval (.Call (.Attribute o m apos) (e :: es) [] pos) X.env = (do
      let ov ← eval o X.env
      standAt apos.atName
      let (f, first) ← holding [ov] (getMethod ov m pl)
      callWith pos f first (backTo pos (starEach (e :: es) X.env)) (backToKw pos (keywordEach [] X.env))) := by rfl) :
    PE X (.Call (.Attribute o m apos) (e :: es) [] pos) (fun σ H Q => ta σ H fun x H1 => x = .ref C ∧ t σ H1 fun vs H2 => sp (.ref C :: (vs ++ dvs)) H2 Q (E σ)) := by
  refine ⟨fun pins s σ H Q I h => ?_⟩
  refine PySem.W.methodCall_KW (pl := pl) (thn (he.run pins s σ H _ I h) fun u s1 ⟨x, H1, I1, rx, ex, q⟩ => ?_) ht
  subst ex
  obtain rfl : u = Value.ref C := rx
  refine getmethcm_ok I1 r c fun s2 I2 => ?_
  refine callwith_cm I2 (base_none I1 (Nat.le_refl _)) c.fi (thn (ha.run pos _ s2 σ H1 _ I2 q) fun us s3 ⟨vs, H2, I3, rv, q2⟩ => ⟨⟨pin_at I3, I3.kIn⟩, ?_⟩) hst hpl
  exact run_cmS F hr hb hd (hx σ) I3 rv q2
end
/-- what a class and its classmethod must have -/
structure CmD (K : PySem.W.Frag) (C : Addr) (m : Str) (g : Addr) : Prop where
  ex : ∃ mc p, CRead K C mc ∧ CMet K C mc m p g
section
variable {Γ : Ct} {δ : Dl} {μ : Mu} {Q : D → Mu → Prop} {E : En} {pos : Pos} {k j n : Nat} {f C g : Addr} {sp : SpD} {dds : List D} {x m : Str} {p apos : Pos} {e o : Expr} {es : List Expr}
/-- C.m(e, ..) -/
theorem ed_cmC {pl : Sem Bool} (c : CmD Γ.X.K C m g) (Cd : CallX Γ.nn Γ.X.prog Γ.X.w Γ.X.K Γ.X.mg Γ.X.base k g n dds sp) (hr : Room j Γ.X.A) (hkj : k ≤ j)
    (h : ed Γ o δ μ fun x μ1 => x = .ref C ∧ ea Γ (e :: es) δ μ1 fun ds μ2 => (.ref C :: (ds ++ dds)).length = n ∧ sp (.ref C :: (ds ++ dds)) μ2 Q fun cls ns xs μ' => Γ.W cls ns xs δ μ')
    (hst : starEach (e :: es) Γ.X.env = (false, eval e Γ.X.env) :: starEach es Γ.X.env := by rfl) (hpl : (backTo pos (starEach es Γ.X.env)).any (·.1) = false := by rfl)
    (ht : eval (.Call (.Attribute o m apos) (e :: es) [] pos) Γ.X.env = (do
      let ov ← eval o Γ.X.env
      standAt apos.atName
      let (f, first) ← holding [ov] (getMethod ov m pl)
      callWith pos f first (backTo pos (starEach (e :: es) Γ.X.env)) (backToKw pos (keywordEach [] Γ.X.env))) := by rfl) : ed Γ (.Call (.Attribute o m apos) (e :: es) [] pos) δ μ Q := by
  obtain ⟨fd, ps, dvs, dus, hl, b, v, dd, G⟩ := Cd.ex
  obtain ⟨mc, pc, cr, cm⟩ := c.ex
  subst hl
  intro F σ H a
  exact we_of (pe_cmethS (E := fun σ cls dx H' => WofD Γ.X.K Γ.F0 Γ.μ0 Γ.H0 Γ.W cls dx σ H') pe_we cr cm G (hr.mono hkj) b v (fun σ => passAt Γ.tk σ) pa_wa hst hpl ht) (we_mono (h F σ H a) fun v' H1 ⟨F1, x, μ1, s1, a1, r1, ex, q1⟩ => by
    subst ex
    have ev : v' = .ref C := by rw [Dp] at r1; exact r1
    refine ⟨ev, wa_mono (q1 F1 σ H1 a1) fun vs H2 ⟨F2, ds, μ2, s2, a2, r2, hl, q⟩ => ?_⟩
    obtain ⟨F3, μ3, ds2, Qd, Ed, b1, b2, b3, b4, b5, b6⟩ := spOf_at (K := Γ.X.K) (n := ps.length) (sp := sp) rfl a2 (Dps.cons (dpr (a := C)) (r2.append (dd F2))) hl q
    exact ⟨F3, μ3, ds2, Qd, Ed, b1, b2, b3, b4, fun v H' F' μ' d c1 c2 c3 c4 => (b5 v H' F' μ' d c1 c2 c3 c4).up (s1.trans s2), b6⟩)
end
/-! ### a local name that holds a class, called -/
section
variable {X : Cx} {b' : Md} {k i : Nat} {C f : Addr} {fd : FuncData} {ps : List Str} {sp : Sp} {dvs : List V} {dus : List Value} {x : Str} {p pos : Pos} {e : Expr} {es : List Expr}
theorem pe_makeL {Eσ : L2.St → XK} {t : TA} (M : Mk X.K C f) (G : FnOk X.prog X.w X.K X.mg X.base b' k f fd ps sp) (hr : Room (k + 1) X.A) (hN : X.N[i]? = some x) (hv : Vis X.env.scope x) (hb : Binds X.K fd ps dus) (hd : Vals dvs dus) (hx : ∀ σ, PassesAt (CXB b' X.prog X.w) X σ (Eσ σ))
    (ha : PA X (e :: es) t) (hdb : (x == ("__debug__" : Str)) = false) (hcd : (x == ("__classdict__" : Str)) = false) (he : starEach (e :: es) X.env = (false, eval e X.env) :: starEach es X.env) (hpl : (backTo pos (starEach es X.env)).any (·.1) = false) :
    PE X (.Call (.Name x p) (e :: es) [] pos) (fun σ H Q => σ[i]? = some (some (.ref C)) ∧ t σ H fun vs H1 => ∀ a dx, H1 a = none → H1 dx = none → dx ≠ a → sp (.ref a :: (vs ++ dvs)) (upd (upd H1 dx (.own a)) a (.ins C dx [])) (fun v H2 => v = .non ∧ Q (.ref a) H2) (Eσ σ)) where
  run := fun pins s σ H Q I h => by
    obtain ⟨hs, ht⟩ := h
    refine wpAny_Call_Name_kw (thn ((pe_var (pos := p) hN hv hdb hcd).run pins s σ H (fun v H1 => v = .ref C ∧ H1 = H) I ⟨.ref C, hs, rfl, rfl⟩) fun u s1 ⟨v, H1, I1, r1, q1⟩ => ?_)
    obtain ⟨rfl, rfl⟩ := q1
    cases r1
    exact PySem.W.callWith_K (h₀ := X.base) I.ok.mod.kin M.kp (thn (ha.run pos pins s1 σ _ _ I1 ht) fun us s2 ⟨vs, H2, I2, r, q⟩ => ⟨I2.kIn, run_makeS M G hr hb hd (hx σ) I2 r q⟩) he hpl
end
section
variable {Γ : Ct} {δ : Dl} {μ : Mu} {Q : D → Mu → Prop} {pos : Pos} {k j n i : Nat} {f C : Addr} {sp : SpD} {dds : List D} {x : Str} {p apos : Pos} {e : Expr} {es : List Expr} {N : List Str} {sc : Scope}
theorem ed_makeL (nm : Nm N sc i x) (hδ : δ[i]? = some (some (.ref C))) (Md : MakeD Γ.X.prog Γ.X.w Γ.X.K Γ.X.mg Γ.X.base k C n dds sp) (hr : Room j Γ.X.A) (hkj : k + 1 ≤ j) (h : ea Γ (e :: es) δ μ fun ds μ1 => (ds ++ dds).length = n ∧ sp (ds ++ dds) μ1 Q fun cls ns xs μ' => Γ.W cls ns xs δ μ')
    (esc : Γ.X.env.scope = sc := by rfl) (e2 : Γ.X.N = N := by rfl) (he : starEach (e :: es) Γ.X.env = (false, eval e Γ.X.env) :: starEach es Γ.X.env := by rfl) (hpl : (backTo pos (starEach es Γ.X.env)).any (·.1) = false := by rfl) :
    ed Γ (.Call (.Name x p) (e :: es) [] pos) δ μ Q := by
  obtain ⟨f, spI, M, Cd, hI⟩ := Md.ex
  obtain ⟨fd, ps, dvs, dus, hl, b, v, dd, G⟩ := (Cd.at_ Γ.nn).ex
  intro F σ H a
  refine we_of (pe_makeL (i := i) (Eσ := fun σ cls dx H' => WofD Γ.X.K Γ.F0 Γ.μ0 Γ.H0 Γ.W cls dx σ H') M G (hr.mono hkj) (by rw [e2]; exact nm.at_) (nm.vis esc) b v (fun σ => passAt Γ.tk σ) pa_wa nm.dbg nm.cls he hpl) ?_
  obtain ⟨v0, hv0, rv0⟩ := a.var hδ
  refine ⟨by rw [hv0]; rw [Dp] at rv0; rw [rv0], wa_mono (h F σ H a) fun vs H1 ⟨F1, ds, μ1, s1, a1, r1, hn, q⟩ q' dx hq hdx hne => ?_⟩
  have a2 : At Γ F1 δ ((q', Cell.ins C dx [] []) :: μ1) σ (upd (upd H1 dx (.own q')) q' (.ins C dx [])) := (a1.ext (same_upd hdx)).own (by rw [upd_ne (Ne.symm hne)]; exact hq) ⟨[], upd_same, rfl, Dps.nil⟩
  have r2 : Dps Γ.X.K F1 (.ref q' :: (ds ++ dds)) (.ref q' :: (vs ++ dvs)) := Dps.cons dpr (r1.append (dd F1))
  refine ⟨F1, _, _, Frz Q q' C dx, _, a2.sx, r2, by rw [hl, List.length_cons, hn], hI _ _ _ _ q q' dx, fun v H' F' μ' d st sx rd z => ?_, fun cls dx' H' F' μ' ns xs st sx xo z => ⟨F', μ', δ, ns, xs, a2.st.trans st, sx, a2.fr.mono st.ext, xo, z⟩⟩
  obtain ⟨rfl, z⟩ := z
  exact ⟨by rw [Dp] at rd; exact rd, PostE.frz rfl ⟨F', μ', s1.trans st.ext, ⟨a2.st.trans st, sx, a2.fr.mono st.ext⟩, z⟩⟩
end
/-! ### try .. except X: whose body raises nothing -/
section
variable {Γ : Ct} {δ : Dl} {μ : Mu} {E : En} {x : Str} {c : Value} {body suite : List Stmt} {b₀ : Stmt} {np pos pos' : Pos}
theorem sd_try_calm (hs : Γ.X.stack = Γ.X.env :: Γ.X.outer) (hf : Γ.X.env.frame = some Γ.X.env.locals) (hc : Names Γ.X x c)
    (h : inTr Γ (fun _ _ _ _ _ => False) fun Γ' => sds Γ' body δ μ E) (hnn : Γ.nn = false := by rfl) : sd Γ (.Try body [.ExceptHandler (some (.Name x np)) none (b₀ :: suite) pos'] [] [] pos) δ μ E := fun F σ H a => by
  let tb : WX → TS := fun W D σ H => ∀ (pn : List (Addr × Obj)) (xe : Value → Shared → Prop), L2.Takes (Γ.X.tr pn xe) W → PassesOwn (model Γ.X.prog Γ.X.w) Γ.X.A Γ.X.env xe → wss (Γ.X.tr pn xe) body D σ H
  let ts : Addr → Value → Option Addr → TS := fun a cls d D σ H => ∀ (oe : Obj) (pn : List (Addr × Obj)), Zc cls d oe → (∃ vs, oe.data = .fields vs) → wss (Γ.X.suite a ((a, oe) :: pn)) (b₀ :: suite) D σ H
  refine ws_of (ps_try_only (tb := tb) (ts := ts) (c := c) (Wout := WofD Γ.X.K Γ.F0 Γ.μ0 Γ.H0 Γ.W) hs hf hc (Γ.tk.all hnn) (fun W pn xe tk po => ⟨fun pins s σ H D I z => z pn xe tk po pins s I⟩) (fun a' oe cls d pn hz hd => ⟨fun pins s σ H D I z => z oe pn hz hd pins s I⟩)) ?_
  intro pn xe tk po
  have tk' : L2.Takes (Γ.X.tr pn xe) (WofD Γ.X.K F μ H (fun _ _ _ _ _ => False)) := tk.imp fun cls d σ' H' w => by
    obtain ⟨F', μ', δ', ns, xs, st, sx, fr, xo, z⟩ := w
    exact z.elim
  have z := h F μ H pn xe tk' po F σ H ⟨Step.refl _ _ _, a.sx, a.fr⟩
  have up : ∀ {Q : Dl → Mu → Prop} {σ2 H2}, PostN ⟨Γ.X.tr pn xe, F, μ, H, fun _ _ _ _ _ => False, false, tk', po⟩ F Q σ2 H2 → PostN Γ F Q σ2 H2 := fun {Q σ2 H2} z => by
    obtain ⟨F2, δ2, μ2, s2, a2, q⟩ := z
    exact ⟨F2, δ2, μ2, s2, ⟨a.st.trans a2.st, a2.sx, a2.fr⟩, q⟩
  refine wss_mono z ⟨fun σ2 H2 q => up q, fun v H2 q => ?_, fun σ2 H2 q => up q, fun σ2 H2 q => up q⟩
  obtain ⟨F2, d2, μ2, s2, st2, sx2, rd, q⟩ := q
  exact ⟨F2, d2, μ2, s2, a.st.trans st2, sx2, rd, q⟩
end
/-! ### methods of texts and lists of texts -/
section
variable {Γ : Ct} {δ : Dl} {μ : Mu} {Q : D → Mu → Prop}
theorem mtd_split {x z : Str} (hz : (z.length == 0) = false) (hl : x.length + 2 ≤ sizeLine) (q : Q (.lst ((Txt.split x z).map .str)) μ) : mtd Γ "str.split" (.str x) [.str z] δ μ Q := mtd_of mt_split fun F σ H vx vs a r1 r2 => by
  obtain ⟨v, ws, rfl, h2, h3⟩ := r2.uncons
  rw [h3.unnil]
  rw [Dp] at r1 h2
  subst r1 h2
  exact ⟨x, z, rfl, rfl, hz, hl, fun p hp => PostE.new a hp (dpl upd_same Dps.of_strs) q⟩
theorem eqV_str {a b : Str} : eqV (.str a) (.str b) = decide (a = b) := by
  by_cases h : a = b
  · subst h; simp [eqV]
  · simp [eqV, h]
theorem mtd_indexS {ys : List Str} {z : Str} {j : Nat} (hz : ys[j]? = some z) (hno : ∀ m, m < j → ys[m]? ≠ some z) (q : Q (.int (j : Nat)) μ) : mtd Γ "list.index" (.lst (ys.map .str)) [.str z] δ μ Q := mtd_of mt_index fun F σ H vx vs a r1 r2 => by
  obtain ⟨v, ws, rfl, h2, h3⟩ := r2.uncons
  rw [h3.unnil]
  rw [Dp] at h2
  subst h2
  obtain ⟨p, vs, rfl, g1, g2⟩ := dpL r1
  have e := Dps.strs g2
  subst e
  refine ⟨p, ys.map V.str, .str z, j, .str z, rfl, rfl, .inl (.inl (a.sx.sub _ _ g1)), rfl, ?_, by rw [List.getElem?_map, hz]; rfl, by rw [eqV_str]; exact decide_eq_true rfl, fun m z' hm hz' => ?_, PostE.here a (by rw [Dp]) q⟩
  · rw [List.all_map]; exact List.all_eq_true.mpr fun _ _ => rfl
  · rw [List.getElem?_map] at hz'
    cases e : ys[m]? with
    | none => rw [e] at hz'; cases hz'
    | some y =>
      rw [e] at hz'
      cases hz'
      rw [eqV_str]
      exact decide_eq_false fun h => hno m hm (by rw [e, h])
end
/-! ### a comprehension by place -/
section
variable {Γ : Ct} {elt tg iter : Expr} {ifs : List Expr} {scope : Scope} {vs : List Nat} {δ : Dl} {μ : Mu} {Q : List D → Mu → Prop}
theorem lcd_ix (W : Mu → Prop) (out : List D) (h : eid Γ tg iter δ μ fun ds S μ1 => ds.length ≤ 1000000 ∧ out.length = ds.length ∧ W μ1 ∧ (∀ μ', W μ' → S μ') ∧
      (∀ (i : Nat) (d r : D) (μ' : Mu), (ds : List D)[i]? = some d → out[i]? = some r → W μ' → allB Γ scope fun Γb => gv Γb tg d vs (wipeD δ vs) μ' fun δ2 μ2 => allB Γ scope fun Γc => eif Γc ifs δ2 μ2 fun b μ3 => b = true ∧ allB Γ scope fun Γd => ed Γd elt δ2 μ3 fun x μ4 => x = r ∧ W μ4) ∧
      ∀ μ', W μ' → Q out μ') : lcd Γ elt tg iter ifs scope vs δ μ Q := fun F σ H a => wi_mono (h F σ H a) fun J H1 ⟨F1, ds, S, μ1, s1, a1, ok, hz, ho, hW, hS, hb, hq⟩ => by
  refine ⟨F1, ds, S, μ1, s1, a1, ok, hz, fun i acc μ' => acc = out.take i ∧ W μ', ⟨rfl, hW⟩, fun i acc μ' _ z => ⟨hS μ' z.2, by rw [z.1]; exact List.length_take_le _ _⟩, ?_, fun acc μ' z => by
    obtain ⟨rfl, z2⟩ := z
    rw [← ho, List.take_length]; exact hq μ' z2⟩
  rintro i d acc μ' hd ⟨rfl, z3⟩
  have hi : i < out.length := by rw [ho]; exact (List.getElem?_eq_some_iff.mp hd).1
  have hr : out[i]? = some out[i] := List.getElem?_eq_getElem hi
  intro s H C cl fp F0 μ0 H0 F2 σ2 H2 v a2 r2
  refine wg_mono (hb i d _ μ' hd hr z3 s H C cl fp F0 μ0 H0 F2 σ2 H2 v a2 r2) fun σ3 H3 ⟨w3, F3, δ3, μ3, s3, a3, q3⟩ => ⟨w3, F3, δ3, μ3, s3, a3, ?_⟩
  intro s' H' C' cl' fp' F0' μ0' H0'
  have key : ∀ {b : Bool} {μ4 : Mu}, (b = true ∧ allB Γ scope fun Γd => ed Γd elt δ3 μ4 fun x μ5 => x = out[i] ∧ W μ5) →
      if b = true then allB Γ scope fun Γd => ed Γd elt δ3 μ4 fun r μ5 => out.take i ++ [r] = out.take (i + 1) ∧ W μ5 else out.take i = out.take (i + 1) ∧ W μ4 := by
    rintro b μ4 ⟨rfl, z⟩
    intro s2 H2' C2 cl2 fp2 F02 μ02 H02 F5 σ5 H5 a5
    refine we_mono (z s2 H2' C2 cl2 fp2 F02 μ02 H02 F5 σ5 H5 a5) fun v' H6 ⟨F6, r, μ6, s6, a6, r6, q1, q2⟩ => ⟨F6, r, μ6, s6, a6, r6, ?_, q2⟩
    rw [q1, List.take_succ, hr]; rfl
  have q4 := q3 s' H' C' cl' fp' F0' μ0' H0'
  match ifs, q4 with
  | [], q4 => exact key (b := true) (μ4 := μ3) q4
  | [c], q4 => exact fun F5 σ5 H5 a5 => wt_mono (q4 F5 σ5 H5 a5) fun b H6 ⟨F6, μ6, s6, a6, q6⟩ => ⟨F6, μ6, s6, a6, key q6⟩
end
end PD
/-! PD22: what the top has written, with defs behind classmethods and properties. -/
namespace PD
open PySem PySem.Spec PyProof.Rows L2
structure TXP (fa : List He.Fa) (fn : List He.DefD) (fx : List He5.DefA) (ts : List He.Tab) (ex : PySem.W.Frag → Bool) (w : World) (K : PySem.W.Frag) (mg : Str → Option Value) : Prop extends TXW fa fn ts ex w K mg where
  dx : ∀ (i : Nat) (d : He5.DefA), fx[i]? = some d → ∃ fd, FunD K d.name d.qual d.params d.body d.scope (d.dvs K) (d.kws K) (d.at_ K) fd
  cs : ∀ (i : Nat) (x z : Str), fa[i]? = some (He.Fa.str x z) → ∃ t, mg x = some (.str z t)
  ci : ∀ (i : Nat) (x : Str) (z : Int), fa[i]? = some (He.Fa.int x z) → ∃ t, mg x = some (.int z t)
abbrev AlP : Type := (He.AlT × Bool) × List He5.FnW
def sayP (fa : List He.Fa) (fn : List He.DefD) (fx : List He5.DefA) (ts : List He.Tab) (ex : PySem.W.Frag → Bool) (K : PySem.W.Frag) : AlP := ((He.obsT fa fn ts K, ex K && fx.all fun d => d.ok K), fx.map fun d => He5.fnA K (d.at_ K))
def valP (fn : List He.DefD) (fx : List He5.DefA) (ts : List He.Tab) (w : World) : AlP := ((He.valT fn ts w, true), fx.map He5.DefA.val)
theorem txp_of {fa : List He.Fa} {fn : List He.DefD} {fx : List He5.DefA} {ts : List He.Tab} {ex : PySem.W.Frag → Bool} {w : World} {K : PySem.W.Frag} {mg : Str → Option Value} {h : Heap} (X : K.In h) (G : h.Ns mainGlobals mg) (c : sayP fa fn fx ts ex K = valP fn fx ts w) : TXP fa fn fx ts ex w K mg := by
  have e1 : He.SaysT fa fn ts w K := congrArg (fun z : AlP => z.1.1) c
  have e2 : (ex K && fx.all fun d => d.ok K) = true := congrArg (fun z : AlP => z.1.2) c
  have e3 : (fx.map fun d => He5.fnA K (d.at_ K)) = fx.map He5.DefA.val := congrArg (fun z : AlP => z.2) c
  obtain ⟨e4, e5⟩ := Bool.and_eq_true_iff.mp e2
  have S : He.SaysX fa fn ts [] ex w h K := ⟨e1, e4, fun p hp => (List.not_mem_nil hp).elim, fun p hp => (List.not_mem_nil hp).elim, fun p hp => (List.not_mem_nil hp).elim⟩
  refine ⟨txw_of X G S, fun i d hi => ?_, fun i x z hi => He.str_ok X G (S.t.d.facts (List.mem_of_getElem? hi)), fun i x z hi => He.int_ok X G (S.t.d.facts (List.mem_of_getElem? hi))⟩
  have e6 : (fx.map fun d => He5.fnA K (d.at_ K))[i]? = (fx.map He5.DefA.val)[i]? := by rw [e3]
  rw [List.getElem?_map, List.getElem?_map, hi] at e6
  exact He5.DefA.funD (Option.some.inj e6) (List.all_eq_true.mp e5 d (List.mem_of_getElem? hi))
theorem cread_of' {K : PySem.W.Frag} {C : Addr} (h : PySem.W.readsIn K C (.type "type") = true) : ClX.CRead K C (.type "type") := by
  refine ⟨h, ?_⟩
  unfold PySem.W.readsIn at h
  obtain ⟨h, _⟩ := Bool.and_eq_true_iff.mp h
  obtain ⟨h, _⟩ := Bool.and_eq_true_iff.mp h
  obtain ⟨h, h3⟩ := Bool.and_eq_true_iff.mp h
  obtain ⟨_, h2⟩ := Bool.and_eq_true_iff.mp h
  unfold PySem.W.specialIn
  rw [beq_iff_eq.mp h2, Option.bind_some]
  exact beq_iff_eq.mp h3
/-- a class and its classmethod, as a Bool -/
def cmB (K : PySem.W.Frag) (C : Addr) (m : Str) : Bool := PySem.W.readsIn K C (.type "type") && (He5.wrapB K C "classmethod" "classmethod.__get__" m && PySem.W.fnIn K (He5.wf K C "classmethod" m))
theorem cmB_ok {K : PySem.W.Frag} {C : Addr} {m : Str} (h : cmB K C m = true) : CmD K C m (He5.wf K C "classmethod" m) := by
  obtain ⟨h1, h⟩ := Bool.and_eq_true_iff.mp h
  obtain ⟨h2, h3⟩ := Bool.and_eq_true_iff.mp h
  exact ⟨_, _, cread_of' h1, He5.cmet_of h2 h3⟩
theorem atI_zero {α : Type} {x : α} {xs : List α} : atI (x :: xs) 0 = some x := atI_nat (j := 0) rfl
/-! ### cells given up, many at once -/
theorem At.dropL {Γ : Ct} {δ : Dl} {σ : L2.St} {H : Hp} {μb : Mu} : ∀ (μa : Mu) {F : Hp}, At Γ F δ (μa ++ μb) σ H → ∃ F', Same F F' ∧ At Γ F' δ μb σ H
  | [], F, a => ⟨F, Same.refl F, a⟩
  | (p, c) :: μa, F, a => by
    obtain ⟨o, ho⟩ := cell_some (a.sx.cells (p, c) List.mem_cons_self)
    have sF : Same F (upd F p o) := same_upd (a.sx.off (p, c) List.mem_cons_self)
    have a2 : At Γ (upd F p o) δ (μa ++ μb) σ H := At.freeze (μ1 := []) a ho
    obtain ⟨F', s, a3⟩ := At.dropL μa a2
    exact ⟨F', sF.trans s, a3⟩
theorem ed_dropL {Γ : Ct} {e : Expr} {δ : Dl} {μ : Mu} {Q : D → Mu → Prop} (h : ed Γ e δ μ fun d μ' => ∃ μa μb, μ' = μa ++ μb ∧ Q d μb) : ed Γ e δ μ Q := fun F σ H a => by
  refine we_mono (h F σ H a) fun v H' ⟨F', d, μ', s', a', r, μa, μb, e, q⟩ => ?_
  subst e
  obtain ⟨F2, s2, a2⟩ := At.dropL μa a'
  exact ⟨F2, d, μb, s'.trans s2, a2, r.mono s2, q⟩
end PD
/-! PD23: enumerate over a tuple; texts walked; numbers in texts; texts and numbers of the top. -/
namespace PySem
open Sem (wp)
set_option maxHeartbeats 1000000 in
theorem meets_enumerate_newT (v : Value) (o : Obj) (H : Heap → Prop) (B : Begins v o H) :
    Meets (Builtin.«enumerate.__new__» ⟨[.type "enumerate", v], []⟩) (fun _ R s => H s.heap ∧
      R (.ok (.ret (.ref (s.heap.push o).objs.size))) { s with heap := (s.heap.push o).push { cls := .type "enumerate", data := .fields #[.none, .bool false, .ref s.heap.objs.size, rawInt 0, .none, .none] } }) :=
  .of_wp fun prog w A R s h => by
    obtain ⟨hp, g, d, tk, os⟩ := s; obtain ⟨h1, h⟩ := h
    have hsub := sub_enumerate
    have q1 : ∀ {A' : Around} {E : Value → Shared → Prop} {Q : Value → Shared → Prop}, Q (.ref hp.objs.size) ⟨hp.push o, g, d, tk, os⟩ → wpAny (model prog w) A' (pyIter v) Q E ⟨hp, g, d, tk, os⟩ :=
      fun q => B.iter prog w _ _ ⟨hp, g, d, tk, os⟩ _ h1 q
    wp_walk using q1
    refine wpAny_stack_any fun st => wpAny_pure ?_
    split
    · rename_i c _ _ _ _ _
      cases (c == Value.type "enumerate")
      · wp_walk using q1
        exact ⟨_, rfl, h⟩
      · wp_walk using q1
        exact ⟨_, rfl, h⟩
    · wp_walk using q1
      exact ⟨_, rfl, h⟩
theorem call_enumerate_tuple {prog : Program} {w : World} {A : Around} {E : Value → Shared → Prop} {s : Shared} {a : Addr} {items : Array Value} {Q : Value → Shared → Prop} (hT : s.heap.IsTuple a items)
    (h : ∀ h', IsEnum h' (s.heap.objs.size + 1) s.heap.objs.size 0 .none → h'.IsTupleIter s.heap.objs.size a 0 → h'.objs.size = s.heap.objs.size + 2 →
      (∀ b o, s.heap.get? b = some o → h'.get? b = some o) → Q (.ref (s.heap.objs.size + 1)) { s with heap := h' }) :
    wpAny (model prog w) A (call (.type "enumerate") [.ref a]) Q E s := by
  refine callType_new F.called_enumerate (by decide) (F.typeCall_enumerate_1 _) (F.newCall_enumerate_1 _) (fun obj => F.args_object_init_2 obj _) F.entry_enumerate_new
    (meets_enumerate_newT _ _ _ (begins_tuple a items)) ⟨hT, ?_⟩
  have hz : (s.heap.push { cls := .type "tuple_iterator", data := .fields #[.ref a, .int 0 0] }).objs.size = s.heap.objs.size + 1 := Heap.size_push ..
  show _ ∧ _
  rw [hz]
  have he : IsEnum ((s.heap.push { cls := .type "tuple_iterator", data := .fields #[.ref a, .int 0 0] }).push { cls := .type "enumerate", data := .fields #[.none, .bool false, .ref s.heap.objs.size, rawInt 0, .none, .none] }) (s.heap.objs.size + 1) s.heap.objs.size 0 .none := by
    have := Heap.get?_push_size (s.heap.push { cls := .type "tuple_iterator", data := .fields #[.ref a, .int 0 0] }) (o := { cls := .type "enumerate", data := .fields #[.none, .bool false, .ref s.heap.objs.size, rawInt 0, .none, .none] }) rfl
    rw [hz] at this; exact this
  refine ⟨⟨_, he, rfl⟩, h _ he ⟨_, Heap.get?_push_of_some _ (Heap.get?_push_size _ rfl), rfl, rfl⟩ (by rw [Heap.size_push, hz]) fun b o x => Heap.get?_push_of_some _ (Heap.get?_push_of_some _ x)⟩
theorem wpAny_pyNext_enumT_end {prog : Program} {w : World} {A : Around} {E : Value → Shared → Prop} {s : Shared} {e it t : Addr} {j : Nat} {items : Array Value} {i : Int} {old : Value} {Q : Option Value → Shared → Prop} (hh : A.handled = none)
    (he : IsEnum s.heap e it i old) (hit : s.heap.IsTupleIter it t j) (ht : s.heap.IsTuple t items) (hj : items.size ≤ j)
    (hQ : ∀ h', Heap.ExtBut it s.heap h' → Q none { s with heap := h' }) : wpAny (model prog w) A (pyNext (.ref e)) Q E s := by
  have hT : s.TypeIs (.ref e) "enumerate" := ⟨_, he, rfl⟩
  unfold pyNext
  refine wpAny_bind (wpAny_attempt (wpAny_callSpecial?_slot (name := Str.ofString "__next__") hT F.slot_enumerate_next
    (wpAny_call_entry F.slot_enumerate_next hT F.entry_enumerate_next ?_ (F.args_enumerate_next_1 _))))
  show wpAny _ _ (field (.ref e) 2 >>= _) _ _ _
  refine wpAny_bind (wpAny_field he rfl (x := .ref it) rfl ?_)
  refine wpAny_bind (wpAny_nextOf_tuple_end (show A.in1.handled = none from hh) hit ht (by simpa using hj) fun h' x he' hx' => ?_)
  obtain ⟨o, ho, hc⟩ := hx'
  refine wpAny_bind (wpAny_isInstance (T := "StopIteration") (b := true) ⟨o, ho, hc⟩ isSubtype_stop ?_)
  exact wpAny_pure (hQ _ he')
end PySem
namespace PD
open PySem PySem.Spec PyProof.Rows L2
/-- the tuple at a, each item in a new pair -/
def Itet (K : PySem.W.Frag) (a : Addr) : It :=
  ⟨fun i H => ∃ (xs : List V) (x : V), SqT K H a xs ∧ xs[i]? = some x, fun i H v H' => ∃ T x, v = .ref T ∧ H T = none ∧ H' = upd H T (.tup [.int (i : Nat), x]) ∧ ∀ xs, SqT K H a xs → xs[i]? = some x, fun i H => ∃ xs : List V, SqT K H a xs ∧ xs.length ≤ i⟩
theorem turn_enumT {P : Program} {w : World} {K : PySem.W.Frag} {elts : List Expr} {kk : Nat} {tpos : Pos} (a e it : Addr) :
    Turn P w K (.Tuple elts kk tpos) (Itet K a) [e, it] e (fun i h => (∃ old, IsEnum h e it ((i : Nat) : Int) old) ∧ h.IsTupleIter it a i ∧ e ≠ it ∧ a ≠ it ∧ a ≠ e) where
  mem := by simp
  obj := fun i h st b hb => by
    obtain ⟨⟨old, he⟩, ⟨o, ho, hc, hd⟩, _⟩ := st
    have e' : b = e ∨ b = it := by simpa using hb
    rcases e' with z | z
    · rw [z]; exact ⟨_, he, fun v q => nomatch q⟩
    · rw [z]; exact ⟨o, ho, fun v q => by rw [hd] at q; cases q⟩
  keep := fun i h h' st k => let ⟨⟨old, he⟩, hi, hne⟩ := st; ⟨⟨old, k e (by simp) _ he⟩, hi.at fun o q => k it (by simp) o q, hne⟩
  item := by
    intro X hP hw hK hc i pins s σ H E I hf st hg
    subst hP hw hK
    obtain ⟨⟨old, he⟩, hit, hne, hai, hae⟩ := st
    obtain ⟨xs, x, hq, hx⟩ := hg
    obtain ⟨its, rv, p, hz⟩ := I.tuple hq
    obtain ⟨u, hu, ru⟩ := rv.get hx
    have p' : s.heap.IsTuple a its.toArray := p
    have hel : e < s.heap.objs.size := Heap.lt_size he
    have hil : it < s.heap.objs.size := by obtain ⟨_, q, _⟩ := hit; exact Heap.lt_size q
    have hlt : i < its.toArray.size := by
      have := (List.getElem?_eq_some_iff.mp hu).1
      simpa using this
    have D := Draws.tuple (prog := X.prog) (w := X.w) (A := X.A.in1) (show X.A.in1.handled = none from I.ok.hd hc) it a hai its.toArray
    refine wpAny_pyNext_enum_itemD D he ⟨hit, p'⟩ hlt hne (by simp [hne, Ne.symm hae]) fun u' h' tk hu' ho hst' hT hsz hk => ?_
    have eu : u' = u := by
      have h1 : its[i]? = some u' := by simpa using hu'
      rw [hu] at h1; exact (Option.some.inj h1).symm
    subst eu
    obtain ⟨hit', _⟩ := hst'
    refine ⟨_, rfl, wpAny_letOwnedTupleGo_enum (s := { s with heap := h', toks := tk + 1 }) ho fun h'' he' sb => ?_⟩
    have hT2 : h''.get? s.heap.objs.size = some { cls := .type "tuple", data := .seq #[.int i tk, u'] } := (sb.2 _ (Nat.ne_of_gt hel)).trans hT
    have new : ObjOk X.prog X.w (upd H s.heap.objs.size (.tup [.int (i : Nat), x])) h'' s.heap.objs.size (.tup [.int (i : Nat), x]) :=
      ⟨by show 2 ≤ sizeLine; decide, [.int i tk, u'], .cons ⟨_, rfl⟩ (.cons ru .nil), ⟨_, hT2, rfl, _, rfl⟩⟩
    have I1 : Inv X pins σ (upd H s.heap.objs.size (.tup [.int (i : Nat), x])) { s with heap := h'', toks := tk + 1 } :=
      I.turnedNew (ch := [e, it]) (fun b ob hb q => (sb.2 b (fun z => hb (by simp [z]))).trans (hk b ob (fun z => hb (by simp [z])) (fun z => hb (by simp [z])) q)) hf (Nat.le_refl _) new
    refine ⟨.ref s.heap.objs.size, _, I1, rfl, ⟨_, x, rfl, I.hok.fresh (Nat.le_refl _), rfl, fun ys hy => by rw [I.tuple_inj hy hq]; exact hx⟩, ⟨⟨u', ?_⟩, hit'.at fun o q => (sb.2 it (Ne.symm hne)).trans q, hne, hai, hae⟩, fun b hb => ?_⟩
    · have e1 : ((i + 1 : Nat) : Int) = (i : Int) + 1 := by omega
      rw [e1]; exact he'
    · have hb' : b < s.heap.objs.size := by
        have e' : b = e ∨ b = it := by simpa using hb
        rcases e' with z | z
        · rw [z]; exact hel
        · rw [z]; exact hil
      rw [upd_ne (Nat.ne_of_lt hb')]
      exact (hf b hb).1
  done := by
    intro X hP hw hK hc i pins s σ H E I hf st hg
    subst hP hw hK
    obtain ⟨⟨old, he⟩, hit, hne, hai, hae⟩ := st
    obtain ⟨xs, hq, hx⟩ := hg
    obtain ⟨its, rv, p, hz⟩ := I.tuple hq
    have p' : s.heap.IsTuple a its.toArray := p
    obtain ⟨f0, f1, f2, f3, f4, f5⟩ := hf it (by simp)
    have hl := rv.length
    exact wpAny_pyNext_enumT_end (I.ok.hd hc) he hit p' (by simp; omega) fun h' eb => ⟨rfl, I.turned (t' := s.toks) (fun b o hb q => eb b o hb q) f0 f1 f3 f4 f5⟩
  self := fun A i s Q E st h => let ⟨⟨_, he⟩, _⟩ := st; wpAny_pyIter_enum he h
theorem itOk_enumT {K : PySem.W.Frag} {F : Hp} {a : Addr} {ds : List D} {S : Mu → Prop} (base : ItOk K (Itt K a) ds S F) : ItOk K (Itet K a) (enumD ds) S F where
  go := fun Γ hK i F2 δ μ σ H s a2 hS d hd => by
    obtain ⟨e, he, rfl⟩ := enumD_get hd
    obtain ⟨⟨xs, x, h1, h2⟩, g⟩ := base.go Γ hK i F2 δ μ σ H s a2 hS e he
    refine ⟨⟨xs, x, h1, h2⟩, fun v H' y => ?_⟩
    obtain ⟨T, x', rfl, hT, rfl, y⟩ := y
    obtain ⟨F3, s3, a3, r3⟩ := g x' H ⟨rfl, y⟩
    have sF := same_upd (o := HO.tup [.int (i : Nat), x']) (a3.sx.sub.free hT)
    exact ⟨upd F3 T (.tup [.int (i : Nat), x']), s3.trans sF, a3.pers _ hT, dpt (.inl (.inl upd_same)) (Dps.cons dpi (Dps.cons (r3.mono sF) Dps.nil))⟩
  stop := fun Γ hK i F2 δ μ σ H s a2 hS hi => base.stop Γ hK i F2 δ μ σ H s a2 hS (by rw [enumD_len] at hi; exact hi)
/-- enumerate over a list or a tuple -/
def iEnumC (K : PySem.W.Frag) (ta : TA) : TI := fun σ H R => ta σ H fun vs H1 => (∃ a xs, vs = [.ref a] ∧ SqL K H1 a xs ∧ R (Ite K a) H1) ∨ ∃ a xs, vs = [.ref a] ∧ SqT K H1 a xs ∧ R (Itet K a) H1
theorem pi_enumC {X : Cx} {e : Expr} {ta : TA} {p pos tpos : Pos} {elts : List Expr} {kk : Nat} (hg : Gl X "enumerate") (hm : X.mg "enumerate" = none) (ha : PA X [e] ta) (hs : starEach [e] X.env = [(false, eval e X.env)] := by rfl) :
    PI X (.Tuple elts kk tpos) (.Call (.Name "enumerate" p) [e] [] pos) (iEnumC X.K ta) := by
  refine ⟨fun pins s σ H R I h => ?_⟩
  refine Call_ (ld_blt I hg hm boot_enumerate (PyProof.Rows.callWith_type1 (thn (ha.run pos pins s σ H _ I h) fun us s1 ⟨vs, H1, I1, r1, q1⟩ => ?_) hs rfl))
  rcases q1 with ⟨a, xs, ex, hq, q⟩ | ⟨a, xs, ex, hq, q⟩
  · subst ex
    cases r1 with
    | cons r rr =>
      cases rr
      cases r
      obtain ⟨its, rv, p', hz⟩ := I1.list hq
      refine call_enumerate_list p'.isList fun h' he hit hsz hk => wpAny_pyIter_enum he ?_
      have I2 : Inv X pins σ H1 { s1 with heap := h' } := I1.kept (t' := s1.toks) hk
      refine ⟨s1.heap.objs.size + 1, [s1.heap.objs.size + 1, s1.heap.objs.size], _, _, H1, rfl, I2, turn_enum a (s1.heap.objs.size + 1) s1.heap.objs.size, ⟨⟨.none, he⟩, hit, Nat.succ_ne_self _⟩, fun b hb => ?_, q⟩
      have e' : b = s1.heap.objs.size + 1 ∨ b = s1.heap.objs.size := by simpa using hb
      have hle : s1.heap.objs.size ≤ b := by
        rcases e' with z | z
        · rw [z]; exact Nat.le_add_right _ _
        · rw [z]; exact Nat.le_refl _
      exact I1.fpOk hle (I1.hok.fresh hle)
  · subst ex
    cases r1 with
    | cons r rr =>
      cases rr
      cases r
      obtain ⟨its, rv, p', hz⟩ := I1.tuple hq
      have p2 : s1.heap.IsTuple a its.toArray := p'
      have hal : a < s1.heap.objs.size := by obtain ⟨_, z, _⟩ := p2; exact Heap.lt_size z
      refine call_enumerate_tuple p2 fun h' he hit hsz hk => wpAny_pyIter_enum he ?_
      have I2 : Inv X pins σ H1 { s1 with heap := h' } := I1.kept (t' := s1.toks) hk
      refine ⟨s1.heap.objs.size + 1, [s1.heap.objs.size + 1, s1.heap.objs.size], _, _, H1, rfl, I2, turn_enumT a (s1.heap.objs.size + 1) s1.heap.objs.size, ⟨⟨.none, he⟩, hit, Nat.succ_ne_self _, Nat.ne_of_lt hal, Nat.ne_of_lt (Nat.lt_succ_of_lt hal)⟩, fun b hb => ?_, q⟩
      have e' : b = s1.heap.objs.size + 1 ∨ b = s1.heap.objs.size := by simpa using hb
      have hle : s1.heap.objs.size ≤ b := by
        rcases e' with z | z
        · rw [z]; exact Nat.le_add_right _ _
        · rw [z]; exact Nat.le_refl _
      exact I1.fpOk hle (I1.hok.fresh hle)
section
variable {Γ : Ct} {δ : Dl} {μ : Mu} {R : List D → (Mu → Prop) → Mu → Prop} {pos : Pos}
theorem eid_enumS {e : Expr} {p pos tpos : Pos} {elts : List Expr} {kk : Nat} (hm : Γ.X.mg "enumerate" = none)
    (h : ea Γ [e] δ μ fun ds μ1 => ∃ x xs, ds = [x] ∧ SeqD μ1 x xs ∧ R (enumD xs) (fun μ' => SeqD μ' x xs) μ1)
    (hg : Gl Γ.X "enumerate" := by rfl) (hs : starEach [e] Γ.X.env = [(false, eval e Γ.X.env)] := by rfl) : eid Γ (.Tuple elts kk tpos) (.Call (.Name "enumerate" p) [e] [] pos) δ μ R := fun F σ H a =>
  wi_of (pi_enumC hg hm pa_wa hs) (wa_mono (h F σ H a) fun vs H1 ⟨F1, ds, μ1, s1, a1, r1, x, xs, e1, hx, q⟩ => by
    subst e1
    obtain ⟨v, rfl, r2⟩ := r1.one
    cases hx with
    | lst =>
      obtain ⟨p, ws, rfl, h1, h2⟩ := dpL r2
      have b := itOk_enum (itOk_list h1 h2)
      exact .inl ⟨p, ws, rfl, .inl (.inl (a1.sx.sub _ _ h1)), F1, _, _, μ1, s1, a1, ⟨fun Γ hK i F δ μ σ H s a _ d hd => b.go Γ hK i F δ μ σ H s a trivial d hd, fun Γ hK i F δ μ σ H s a _ hi => b.stop Γ hK i F δ μ σ H s a trivial hi⟩, q⟩
    | rl =>
      obtain ⟨p, ws, rfl, h1, h2⟩ := dpRl r2
      have b := itOk_enum (itOk_rl h1 h2)
      exact .inl ⟨p, ws, rfl, a1.sx.sub.seq h1, F1, _, _, μ1, s1, a1, ⟨fun Γ hK i F δ μ σ H s a _ d hd => b.go Γ hK i F δ μ σ H s a trivial d hd, fun Γ hK i F δ μ σ H s a _ hi => b.stop Γ hK i F δ μ σ H s a trivial hi⟩, q⟩
    | tup =>
      obtain ⟨p, ws, rfl, h1, h2⟩ := dpT r2
      have b := itOk_enumT (itOk_tup h1 h2)
      exact .inr ⟨p, ws, rfl, Same.sqT a1.sx.sub h1, F1, _, _, μ1, s1, a1, ⟨fun Γ hK i F δ μ σ H s a _ d hd => b.go Γ hK i F δ μ σ H s a trivial d hd, fun Γ hK i F δ μ σ H s a _ hi => b.stop Γ hK i F δ μ σ H s a trivial hi⟩, q⟩
    | own hmem =>
      rename_i pp
      rw [dpR r2]
      obtain ⟨ws, h1, h2⟩ := a1.sx.cells _ hmem
      have b := itOk_enum (itOk_own (K := Γ.X.K) (F := F1) (a := pp) (ds := xs))
      refine .inl ⟨pp, ws, rfl, .inl (.inl h1), F1, _, _, μ1, s1, a1, ⟨fun Γ hK i F δ μ σ H s a hS d hd => b.go Γ hK i F δ μ σ H s a ?_ d hd, fun Γ hK i F δ μ σ H s a hS hi => b.stop Γ hK i F δ μ σ H s a ?_ hi⟩, q⟩
      · cases hS with | own h => exact h
      · cases hS with | own h => exact h)
/-! ### a text's signs -/
def signsD (x : Str) : List D := x.cps.toList.map fun c => .str ⟨#[c]⟩
theorem itOk_str {K : PySem.W.Frag} {F : Hp} {x : Str} : ItOk K (Its x) (signsD x) (fun _ => True) F where
  go := fun Γ hK i F2 δ μ σ H s a2 _ d hd => by
    unfold signsD at hd
    rw [List.getElem?_map] at hd
    cases e : x.cps.toList[i]? with
    | none => rw [e] at hd; cases hd
    | some c =>
      rw [e] at hd
      cases hd
      have hc : x.cps[i]? = some c := by simpa using e
      refine ⟨(Array.getElem?_eq_some_iff.mp hc).1, fun v H' y => ?_⟩
      obtain ⟨rfl, c', hc', rfl⟩ := y
      rw [hc] at hc'
      cases hc'
      exact ⟨F2, Same.refl _, a2, by rw [Dp]⟩
  stop := fun Γ hK i F2 δ μ σ H s a2 _ hi => by
    unfold signsD at hi
    rw [List.length_map] at hi
    show x.cps.size ≤ i
    simpa using hi
theorem itf_str {X : Cx} {tg : Expr} {x : Str} {H : Hp} {R : It → Hp → Prop} (q : R (Its x) H) : itf X tg (.str x) H R := fun pins s σ v I1 r1 => by
  obtain ⟨t, rfl⟩ := r1
  cases ha : x.cps.all (· < 128)
  · exact wpAny_pyIter_wide ha (pi_one (tk := s.toks) I1 _ (turn_str _ x t "str_iterator" (.inr rfl)) ⟨_, Heap.get?_push_size _ rfl, rfl, rfl⟩ q)
  · exact wpAny_pyIter_ascii ha (pi_one (tk := s.toks) I1 _ (turn_str _ x t "str_ascii_iterator" (.inl rfl)) ⟨_, Heap.get?_push_size _ rfl, rfl, rfl⟩ q)
theorem itd_str {tg : Expr} {x : Str} (q : R (signsD x) (fun _ => True) μ) : itd Γ tg (.str x) δ μ R := fun F σ H v a r => by
  rw [Dp] at r
  subst r
  exact itf_str ⟨F, _, _, μ, Same.refl F, a, itOk_str, q⟩
end
section
variable {Γ : Ct} {δ : Dl} {μ : Mu} {Q : D → Mu → Prop}
theorem opd_inSign {c : Nat} {z : Str} (q : Q (.bl (decide (c ∈ z.cps.toList))) μ) : opd Γ (compareOp .In) (.str ⟨#[c]⟩) (.str z) δ μ Q := opd_of op_in_sign fun F σ H vx vy a r1 r2 => by
  rw [Dp] at r1 r2
  subst r1 r2
  exact ⟨c, z, rfl, rfl, PostE.here a dpb q⟩
theorem cld_strS {x : Str} (q : Q (.str x) μ) : cld Γ (.type "str") [.str x] δ μ Q := cld_of SkE.call_str_str fun F σ H vs a r0 => by
  obtain ⟨v, rfl, r⟩ := r0.one
  rw [Dp] at r
  subst r
  exact ⟨x, rfl, PostE.here a (by rw [Dp]) q⟩
end
section
variable {Γ : Ct} {δ : Dl} {μ : Mu} {a b c : Expr} {pos : Pos}
/-- a < b < c as a test -/
theorem et_chain {op op' : CmpOp} {Q : Bool → Mu → Prop} (h : ed Γ a δ μ fun x μ1 => ed Γ b δ μ1 fun y μ2 => opd Γ (compareOp op) x y δ μ2 fun d μ3 => ∃ k, d = .bl k ∧ if k = true then ed Γ c δ μ3 fun z μ4 => opd Γ (compareOp op') y z δ μ4 (fun d μ5 => ∃ k, d = .bl k ∧ Q k μ5) else Q false μ3)
    (hm : lastMarks [op, op'] [b, c] = false := by with_unfolding_all rfl) : et Γ (.Compare a [op, op'] [b, c] pos) δ μ Q := fun F σ H at_ => by
  refine wt_of (pt_chain rwf_ok rwf_ok pe_we pe_we pe_we hm) ?_
  refine we_mono (h F σ H at_) fun x H1 ⟨F1, d1, μ1, s1, h1, r1, q1⟩ => ?_
  refine we_mono (q1 F1 σ H1 h1) fun y H2 ⟨F2, d2, μ2, s2, h2, r2, q2⟩ => ?_
  refine rwf_mono (q2 F2 σ H2 x y h2 (r1.mono s2) r2) fun v H3 ⟨F3, d3, μ3, s3, h3, r3, k, e3, q3⟩ => ?_
  subst e3
  rw [Dp] at r3
  refine ⟨k, r3, ?_⟩
  cases k with
  | true =>
    rw [if_pos rfl] at q3 ⊢
    refine we_mono (q3 F3 σ H3 h3) fun z H4 ⟨F4, d4, μ4, s4, h4, r4, q4⟩ => ?_
    refine rwf_mono (q4 F4 σ H4 y z h4 ((r2.mono s3).mono s4) r4) fun v5 H5 ⟨F5, d5, μ5, s5, h5, r5, k5, e5, q5⟩ => ?_
    subst e5
    rw [Dp] at r5
    exact ⟨k5, r5, F5, μ5, (((s1.trans s2).trans s3).trans s4).trans s5, h5, q5⟩
  | false =>
    rw [if_neg Bool.false_ne_true] at q3 ⊢
    exact ⟨false, rfl, F3, μ3, (s1.trans s2).trans s3, h3, q3⟩
end
end PD
/-! PD24: C() -/
namespace PD
open PySem PySem.Spec PyProof.Rows L2
section
variable {X : Cx} {b' : Md} {k : Nat} {C f : Addr} {fd : FuncData} {ps : List Str} {sp : Sp} {dvs : List V} {dus : List Value} {x : Str} {p pos : Pos}
theorem pe_makeS0 {Eσ : L2.St → XK} (M : Mk X.K C f) (G : FnOk X.prog X.w X.K X.mg X.base b' k f fd ps sp) (hr : Room (k + 1) X.A) (hg : Gl X x) (hm : X.mg x = some (.ref C)) (hb : Binds X.K fd ps dus) (hd : Vals dvs dus) (hx : ∀ σ, PassesAt (CXB b' X.prog X.w) X σ (Eσ σ)) (hdb : (x == ("__debug__" : Str)) = false) :
    PE X (.Call (.Name x p) [] [] pos) (fun σ H1 Q => ∀ a dx, H1 a = none → H1 dx = none → dx ≠ a → sp (.ref a :: ([] ++ dvs)) (upd (upd H1 dx (.own a)) a (.ins C dx [])) (fun v H2 => v = .non ∧ Q (.ref a) H2) (Eσ σ)) where
  run := fun pins s σ H Q I h => wpAny_Call_Name_kw (ld_glob I hg hm (PySem.W.callWith_K0 I.kIn M.kp (run_makeS (us := []) (vs := []) M G hr hb hd (hx σ) I .nil h)) hdb)
end
section
variable {Γ : Ct} {δ : Dl} {μ : Mu} {Q : D → Mu → Prop} {pos : Pos} {k j n : Nat} {f C : Addr} {sp : SpD} {dds : List D} {x : Str} {p : Pos}
theorem ed_makeC0 (Md : MakeD Γ.X.prog Γ.X.w Γ.X.K Γ.X.mg Γ.X.base k C n dds sp) (hr : Room j Γ.X.A) (hkj : k + 1 ≤ j) (hm : Γ.X.mg x = some (.ref C)) (h : dds.length = n ∧ sp dds μ Q fun cls ns xs μ' => Γ.W cls ns xs δ μ') (hg : Gl Γ.X x := by rfl)
    (hdb : (x == ("__debug__" : Str)) = false := by decide +kernel) :
    ed Γ (.Call (.Name x p) [] [] pos) δ μ Q := by
  obtain ⟨f, spI, M, Cd, hI⟩ := Md.ex
  obtain ⟨fd, ps, dvs, dus, hl, b, v, dd, G⟩ := (Cd.at_ Γ.nn).ex
  obtain ⟨hn, q⟩ := h
  intro F σ H a
  refine we_of (pe_makeS0 (Eσ := fun σ cls dx H' => WofD Γ.X.K Γ.F0 Γ.μ0 Γ.H0 Γ.W cls dx σ H') M G (hr.mono hkj) hg hm b v (fun σ => passAt Γ.tk σ) hdb) fun q' dx hq hdx hne => ?_
  have a2 : At Γ F δ ((q', Cell.ins C dx [] []) :: μ) σ (upd (upd H dx (.own q')) q' (.ins C dx [])) := (a.ext (same_upd hdx)).own (by rw [upd_ne (Ne.symm hne)]; exact hq) ⟨[], upd_same, rfl, Dps.nil⟩
  have r2 : Dps Γ.X.K F (.ref q' :: dds) (.ref q' :: ([] ++ dvs)) := Dps.cons dpr (dd F)
  refine ⟨F, _, _, Frz Q q' C dx, _, a2.sx, r2, by rw [hl, List.length_cons, hn], hI _ _ _ _ q q' dx, fun v H' F' μ' d st sx rd z => ?_, fun cls dx' H' F' μ' ns xs st sx xo z => ⟨F', μ', δ, ns, xs, a2.st.trans st, sx, a2.fr.mono st.ext, xo, z⟩⟩
  obtain ⟨rfl, z⟩ := z
  exact ⟨by rw [Dp] at rd; exact rd, PostE.frz rfl ⟨F', μ', st.ext, ⟨a2.st.trans st, sx, a2.fr.mono st.ext⟩, z⟩⟩
end
end PD
/-! PD25: own + and *, in place; own order; tuple * int. -/
namespace PD
open PySem PySem.Spec PyProof.Rows L2
/-! ### the rules -/
end PD
/-! PD26: tuple * int, any tuple and number. -/
namespace PD
open PySem PySem.Spec PyProof.Rows L2
end PD
/-! PD27: facts for own operators by the methods. -/
namespace PD
open PySem PySem.Spec PyProof.Rows L2
end PD
/-! PD28: dicts whose keys are ints and texts, owned. -/
namespace PD
open PySem PySem.Spec PyProof.Rows L2
@[reducible] def kD : Key → D
  | .inl i => .int i
  | .inr z => .str z
theorem dpK {K : PySem.W.Frag} {F : Hp} {k : Key} {v : V} (h : Dp K F (kD k) v) : v = kV k := by
  cases k with
  | inl i => exact dpI h
  | inr z => exact dpS h
abbrev Dic := List (Key × D)
def dic (kvs : Dic) : Cell := .dK (kvs.map (·.1)) (kvs.map (·.2))
def valY (kvs : Dic) (k : Key) : Option D := (kvs.find? fun kv => decide (kv.1 = k)).map (·.2)
def putY (kvs : Dic) (k : Key) (d : D) : Dic := if (kvs.any fun kv => decide (kv.1 = k)) = true then kvs.map (fun kv => if kv.1 = k then (kv.1, d) else kv) else kvs ++ [(k, d)]
def dropY (kvs : Dic) (k : Key) : Dic := kvs.filter fun kv => decide (kv.1 ≠ k)
def KVd (K : PySem.W.Frag) (F : Hp) : Dic → List (Key × V) → Prop
  | [], gs => gs = []
  | p :: r, gs => ∃ q t, gs = q :: t ∧ q.1 = p.1 ∧ Dp K F p.2 q.2 ∧ KVd K F r t
section
variable {K : PySem.W.Frag} {F F' : Hp}
theorem kvd_of : ∀ {kvs : Dic} {gs : List (Key × V)}, gs.map (·.1) = kvs.map (·.1) → Dps K F (kvs.map (·.2)) (gs.map (·.2)) → KVd K F kvs gs
  | [], gs, h, _ => by simpa [KVd] using h
  | p :: r, [], h, _ => by simp at h
  | p :: r, q :: t, h, hd => by
    rw [List.map_cons, List.map_cons] at h hd
    obtain ⟨v, ws, e, h1, h2⟩ := hd.uncons
    injection e with e1 e2
    injection h with h3 h4
    subst e1 e2
    exact ⟨q, t, rfl, h3, h1, kvd_of h4 h2⟩
theorem KVd.keys : ∀ {kvs : Dic} {gs : List (Key × V)}, KVd K F kvs gs → gs.map (·.1) = kvs.map (·.1)
  | [], gs, h => by cases (show gs = [] from h); rfl
  | p :: r, gs, h => by
    obtain ⟨q, t, rfl, h1, _, h3⟩ := (show ∃ q t, gs = q :: t ∧ q.1 = p.1 ∧ Dp K F p.2 q.2 ∧ KVd K F r t from h)
    rw [List.map_cons, List.map_cons, h1, KVd.keys h3]
theorem KVd.vals : ∀ {kvs : Dic} {gs : List (Key × V)}, KVd K F kvs gs → Dps K F (kvs.map (·.2)) (gs.map (·.2))
  | [], gs, h => by cases (show gs = [] from h); exact Dps.nil
  | p :: r, gs, h => by
    obtain ⟨q, t, rfl, _, h2, h3⟩ := (show ∃ q t, gs = q :: t ∧ q.1 = p.1 ∧ Dp K F p.2 q.2 ∧ KVd K F r t from h)
    rw [List.map_cons, List.map_cons]
    exact Dps.cons h2 (KVd.vals h3)
theorem KVd.length {kvs : Dic} {gs : List (Key × V)} (h : KVd K F kvs gs) : kvs.length = gs.length := by
  have := congrArg List.length h.keys
  rw [List.length_map, List.length_map] at this
  exact this.symm
theorem KVd.any (k : Key) : ∀ {kvs : Dic} {gs : List (Key × V)}, KVd K F kvs gs → (gs.any fun kv => decide (kv.1 = k)) = kvs.any fun kv => decide (kv.1 = k)
  | [], gs, h => by cases (show gs = [] from h); rfl
  | p :: r, gs, h => by
    obtain ⟨q, t, rfl, h1, _, h3⟩ := (show ∃ q t, gs = q :: t ∧ q.1 = p.1 ∧ Dp K F p.2 q.2 ∧ KVd K F r t from h)
    rw [List.any_cons, List.any_cons, h1, KVd.any k h3]
theorem KVd.val (k : Key) : ∀ {kvs : Dic} {gs : List (Key × V)}, KVd K F kvs gs → (∀ d, valY kvs k = some d → ∃ v, valV gs k = some v ∧ Dp K F d v) ∧ (valY kvs k = none → valV gs k = none)
  | [], gs, h => by cases (show gs = [] from h); exact ⟨(fun d e => nomatch e), fun _ => rfl⟩
  | p :: r, gs, h => by
    obtain ⟨q, t, rfl, h1, h2, h3⟩ := (show ∃ q t, gs = q :: t ∧ q.1 = p.1 ∧ Dp K F p.2 q.2 ∧ KVd K F r t from h)
    have ih := KVd.val k h3
    by_cases e : p.1 = k
    · have e1 : valY (p :: r) k = some p.2 := by simp [valY, List.find?_cons, e]
      have e2 : valV (q :: t) k = some q.2 := valV_pos (h1.trans e)
      rw [e1, e2]
      exact ⟨fun d z => by cases z; exact ⟨q.2, rfl, h2⟩, fun z => nomatch z⟩
    · have e1 : valY (p :: r) k = valY r k := by simp [valY, List.find?_cons, e]
      have e2 : valV (q :: t) k = valV t k := valV_neg (fun z => e (h1.symm.trans z))
      rw [e1, e2]
      exact ih
theorem KVd.snoc {k : Key} {d : D} {v : V} (r : Dp K F d v) : ∀ {kvs : Dic} {gs : List (Key × V)}, KVd K F kvs gs → KVd K F (kvs ++ [(k, d)]) (gs ++ [(k, v)])
  | [], gs, h => by cases (show gs = [] from h); exact ⟨_, _, rfl, rfl, r, rfl⟩
  | p :: r', gs, h => by
    obtain ⟨q, t, rfl, h1, h2, h3⟩ := (show ∃ q t, gs = q :: t ∧ q.1 = p.1 ∧ Dp K F p.2 q.2 ∧ KVd K F r' t from h)
    exact ⟨q, _, rfl, h1, h2, KVd.snoc r h3⟩
theorem KVd.over {k : Key} {d : D} {v : V} (r : Dp K F d v) : ∀ {kvs : Dic} {gs : List (Key × V)}, KVd K F kvs gs → KVd K F (kvs.map fun kv => if kv.1 = k then (kv.1, d) else kv) (gs.map fun kv => if kv.1 = k then (kv.1, v) else kv)
  | [], gs, h => by cases (show gs = [] from h); rfl
  | p :: r', gs, h => by
    obtain ⟨q, t, rfl, h1, h2, h3⟩ := (show ∃ q t, gs = q :: t ∧ q.1 = p.1 ∧ Dp K F p.2 q.2 ∧ KVd K F r' t from h)
    refine ⟨_, _, rfl, ?_, ?_, KVd.over r h3⟩
    · show (if q.1 = k then (q.1, v) else q).1 = (if p.1 = k then (p.1, d) else p).1
      rw [h1]; split <;> first | rfl | exact h1
    · show Dp K F (if p.1 = k then (p.1, d) else p).2 (if q.1 = k then (q.1, v) else q).2
      rw [h1]; split <;> first | exact r | exact h2
theorem KVd.put {kvs : Dic} {gs : List (Key × V)} (h : KVd K F kvs gs) (k : Key) {d : D} {v : V} (r : Dp K F d v) : KVd K F (putY kvs k d) (putK gs k v) := by
  unfold putY putK
  rw [h.any k]
  split
  · exact h.over r
  · exact h.snoc r
theorem KVd.drop (k : Key) : ∀ {kvs : Dic} {gs : List (Key × V)}, KVd K F kvs gs → KVd K F (dropY kvs k) (dropK gs k)
  | [], gs, h => by cases (show gs = [] from h); rfl
  | p :: r, gs, h => by
    obtain ⟨q, t, rfl, h1, h2, h3⟩ := (show ∃ q t, gs = q :: t ∧ q.1 = p.1 ∧ Dp K F p.2 q.2 ∧ KVd K F r t from h)
    have ih := KVd.drop k h3
    unfold dropY dropK at ih ⊢
    rw [List.filter_cons, List.filter_cons, h1]
    split
    · exact ⟨q, _, rfl, h1, h2, ih⟩
    · exact ih
end
/-! ### a dict that stands in a cell -/
def DicAt (μ : Mu) (p : Addr) (kvs : Dic) : Prop := (p, dic kvs) ∈ μ ∨ ∃ od gs, (p, Cell.dF od gs (kvs.map (·.2))) ∈ μ ∧ gs.map (·.1) = kvs.map (·.1)
section
variable {Γ : Ct} {δ : Dl} {μ : Mu} {Q : D → Mu → Prop} {p : Addr} {kvs : Dic} {k : Key} {d : D} {μ1 μ2 : Mu} {F H : Hp} {σ : L2.St} {pos : Pos}
theorem cell_dic (a : At Γ F δ μ σ H) (h : (p, dic kvs) ∈ μ) : ∃ gs, H p = some (.dK gs) ∧ KVd Γ.X.K F kvs gs := by
  obtain ⟨gs, h1, h2, h3⟩ := a.sx.cells _ h
  exact ⟨gs, h1, kvd_of h2 h3⟩
theorem dicAt (a : At Γ F δ μ σ H) (h : DicAt μ p kvs) : ∃ gs, Rd H p (.dK gs) ∧ KVd Γ.X.K F kvs gs := by
  rcases h with h | ⟨od, gs, h, e⟩
  · obtain ⟨gs, h1, h2⟩ := cell_dic a h
    exact ⟨gs, .inl h1, h2⟩
  · obtain ⟨h1, h2⟩ := a.sx.cells _ h
    exact ⟨gs, .inr ⟨od, h1⟩, kvd_of e h2⟩
theorem cellOk_dic {K : PySem.W.Frag} {gs : List (Key × V)} (h : H p = some (.dK gs)) (r : KVd K F kvs gs) : CellOk K F H p (dic kvs) := ⟨gs, h, r.keys, r.vals⟩
/-- d[k] -/
theorem ixd_Y (hu : Γ.X.A.units + 1 < cLine) (h : DicAt μ p kvs) (hk : valY kvs k = some d) (q : Q d μ) : ixd Γ (.ref p) (kD k) δ μ Q := fun F σ H vx vy a r1 r2 value slice pins s σ' v u I q1 q2 hs => by
  obtain ⟨gs, h1, h2⟩ := dicAt a h
  have e1 := dpK r2
  have e2 := dpR r1
  subst e1 e2
  obtain rfl : v = Value.ref p := q1
  obtain ⟨w, e, rw'⟩ := (h2.val k).1 d hk
  have g : DGet H p (kV k) (some w) := .inl ⟨gs, k, h1, rfl, e.symm⟩
  have hT := dict_typeIs I g
  unfold subscriptTail
  refine wpAny_bind ?_
  rw [getitemInPython_of_ne hT.not_modules]
  refine wpAny_bind (wpAny_specialOf hT PySem.F.slot_dict_getitem.lookup ?_)
  have fin : wpAny (model Γ.X.prog Γ.X.w) Γ.X.A (subscripted slice false (.ref p) u) (fun r s₃ => wpAny (model Γ.X.prog Γ.X.w) Γ.X.A (letTemporaryGo value (.ref p) r >>= fun _ => pure r) (EP Γ.X pins σ' (PostE Γ F δ σ Q)) Γ.X.xe s₃) Γ.X.xe s := by
    rw [hs]
    exact wpAny_operating (d_getItem hu I g q2 fun w' s' I' r' => wpAny_bind (wpAny_letTemporaryGo (wpAny_pure ⟨w, H, I', r', PostE.here a rw' q⟩)))
  first
    | exact wpAny_pure (wpAny_bind fin)
    | exact wpAny_bind (wpAny_pure (wpAny_bind fin))
    | exact wpAny_bind fin
/-- o[i] = v, by what o is -/
def std (Γ : Ct) (x y v : D) (δ : Dl) (μ : Mu) (Q : Mu → Prop) : Prop := ∀ F σ H vx vy vv, At Γ F δ μ σ H → Dp Γ.X.K F x vx → Dp Γ.X.K F y vy → Dp Γ.X.K F v vv →
  ∀ (pins : List (Addr × Obj)) (s : Shared) (σ' : L2.St) (ov iv u : Value), Inv Γ.X pins σ' H s → RelV vx ov → RelV vy iv → RelV vv u →
    wpAny (model Γ.X.prog Γ.X.w) Γ.X.A (setItem ov iv u) (fun _ s' => ∃ H', Inv Γ.X pins σ' H' s' ∧ ∃ F' μ', Same F F' ∧ At Γ F' δ μ' σ H' ∧ Q μ') Γ.X.xe s
def swf (X : Cx) : TSet := fun o i v H Q => ∀ (pins : List (Addr × Obj)) (s : Shared) (σ : L2.St) (ov iv u : Value), Inv X pins σ H s → RelV o ov → RelV i iv → RelV v u → wpAny (model X.prog X.w) X.A (setItem ov iv u) (fun _ s' => ∃ H', Inv X pins σ H' s' ∧ Q H') X.xe s
theorem swf_ok {X : Cx} : PSet X (swf X) := fun pins s σ H o i v ov iv u Q I r1 r2 r3 h => h pins s σ ov iv u I r1 r2 r3
theorem gd_sub {o i : Expr} {v : D} {R : Dl → Mu → Prop} (h : ed Γ o δ μ fun x μ1 => ed Γ i δ μ1 fun y μ2 => std Γ x y v δ μ2 fun μ3 => R δ μ3)
    (ha : ∀ v, assign (.Subscript o i pos) Γ.X.env v = (do
      let ov ← holding [v] (eval o Γ.X.env)
      let iv ← holding [v, ov] (eval i Γ.X.env)
      standAt pos
      holding [v, ov, iv] (setItem ov iv v)
      release [v, ov, iv] []) := by intro _; rfl) : gd Γ (.Subscript o i pos) v δ μ R := fun F σ H vv at_ rv => by
  refine wg_of (pg_sub pe_we pe_we swf_ok ha) (we_mono (h F σ H at_) fun x H1 ⟨F1, d1, μ1, s1, h1, r1, q1⟩ => we_mono (q1 F1 σ H1 h1) fun y H2 ⟨F2, d2, μ2, s2, h2, r2, q2⟩ => ?_)
  intro pins s σ' ov iv u I p1 p2 p3
  refine wpAny_mono (q2 F2 σ H2 x y vv h2 (r1.mono s2) r2 (rv.mono (s1.trans s2)) pins s σ' ov iv u I p1 p2 p3) (fun _ s' ⟨H', I', F', μ', s3, a3, q⟩ => ⟨H', I', F', δ, μ', (s1.trans s2).trans s3, a3, q⟩) fun _ _ z => z
theorem std_Y {v : D} {R : Mu → Prop} (hu : Γ.X.A.units + 1 < cLine) (hl : kvs.length < sizeLine) (q : R (μ1 ++ (p, dic (putY kvs k v)) :: μ2)) : std Γ (.ref p) (kD k) v δ (μ1 ++ (p, dic kvs) :: μ2) R := fun F σ H vx vy vv a r1 r2 r3 pins s σ' ov iv u I p1 p2 p3 => by
  obtain ⟨gs, h1, h2⟩ := cell_dic a mem_mid
  have e1 := dpK r2
  have e2 := dpR r1
  subst e1 e2
  obtain rfl : ov = Value.ref p := p1
  exact d_setItem hu I (.inl ⟨gs, k, h1, rfl, by rw [← h2.length]; exact hl, rfl⟩) p2 p3 fun s' I' => ⟨_, I', F, _, Same.refl F, a.put (c' := dic (putY kvs k v)) (cellOk_dic upd_same (h2.put k r3)), q⟩
theorem cld_len_Y (h : DicAt μ p kvs) (q : Q (.int (kvs.length : Nat)) μ) : cld Γ (.builtin "len") [.ref p] δ μ Q := fun F σ H vs a r0 pins s σ' us I q1 => by
  obtain ⟨gs, h1, h2⟩ := dicAt a h
  obtain ⟨v, ws, rfl, r1, r2⟩ := r0.uncons
  obtain rfl := r2.unnil
  have e := dpR r1
  subst e
  obtain ⟨u, rfl, ru⟩ := q1.one
  obtain rfl : u = Value.ref p := ru
  refine d_len I h1 fun t s' I' => ⟨.int (gs.length : Nat), H, I', ⟨t, rfl⟩, ?_⟩
  rw [← h2.length]
  exact PostE.here a (d := .int (kvs.length : Nat)) (by rw [Dp]) q
/-! ### a dict is locked while it is walked -/
end
end PD
/-! PD29: walks over a locked dict. -/
namespace PD
open PySem PySem.Spec PyProof.Rows L2
/-! ### a statement while a dict is locked -/
end PD
/-! PD30: set(a list of ints), sorted of it. -/
namespace PD
open PySem PySem.Spec PyProof.Rows L2
end PD
/-! PD31: [elt for tg in iter if .. for tg1 in iter1 if ..]. -/
namespace PD
open PySem PySem.Spec PyProof.Rows L2
section
variable {Γ : Ct} {elt tg iter tg1 iter1 : Expr} {ifs ifs1 : List Expr} {scope : Scope} {own : List (Str × Nat)} {vs1 : List Nat} {pos : Pos} {δ : Dl} {μ : Mu} {Q : D → Mu → Prop}
/-- the inner source, as it is asked in a block -/
def lcd1 (Γ : Ct) (elt tg1 iter1 : Expr) (ifs1 : List Expr) (scope : Scope) (vs1 : List Nat) (δ2 : Dl) (μ3 : Mu) (acc : List D) (Nx : List D → Mu → Prop) : Prop :=
  allB Γ scope fun Γe => eid Γe tg1 iter1 δ2 μ3 fun ds1 S1 μ4 => ∃ I1 : Nat → List D → Mu → Prop, I1 0 acc μ4 ∧ (∀ j acc' μ', j ≤ ds1.length → I1 j acc' μ' → S1 μ' ∧ acc'.length ≤ 1000000) ∧
    (∀ j d1 acc' μ', ds1[j]? = some d1 → I1 j acc' μ' → allB Γ scope fun Γf => gv Γf tg1 d1 vs1 (wipeD δ2 vs1) μ' fun δ3 μ5 => allB Γ scope fun Γg => eif Γg ifs1 δ3 μ5 fun b μ6 =>
      if b = true then allB Γ scope fun Γh => ed Γh elt δ3 μ6 fun r μ7 => I1 (j + 1) (acc' ++ [r]) μ7 else I1 (j + 1) acc' μ6) ∧ ∀ acc' μ', I1 ds1.length acc' μ' → Nx acc' μ'
def lcd2 (Γ : Ct) (elt tg iter : Expr) (ifs : List Expr) (tg1 iter1 : Expr) (ifs1 : List Expr) (scope : Scope) (vs vs1 : List Nat) (δ : Dl) (μ : Mu) (Q : List D → Mu → Prop) : Prop := eid Γ tg iter δ μ fun ds S μ1 => ∃ I : Nat → List D → Mu → Prop, I 0 [] μ1 ∧ (∀ i acc μ', i ≤ ds.length → I i acc μ' → S μ') ∧
      (∀ i d acc μ', ds[i]? = some d → I i acc μ' → allB Γ scope fun Γb => gv Γb tg d vs (wipeD δ vs) μ' fun δ2 μ2 => allB Γ scope fun Γc => eif Γc ifs δ2 μ2 fun b μ3 =>
        if b = true then lcd1 Γ elt tg1 iter1 ifs1 scope vs1 δ2 μ3 acc (fun acc' μ' => I (i + 1) acc' μ') else I (i + 1) acc μ3) ∧ ∀ acc μ', I ds.length acc μ' → Q acc μ'
def wiB (X : Cx) (scope : Scope) (tg iter : Expr) : TI := fun σ H R => ∀ s H0 C cl fp, wi (X.blk s H0 scope (compEnvC scope cl C X.env) fp) tg iter σ H R
theorem pi_wiB {X : Cx} (s H C cl fp) : PI (X.blk s H scope (compEnvC scope cl C X.env) fp) tg iter (wiB X scope tg iter) := ⟨fun pins s' σ H' R I h => h s H C cl fp pins s' I⟩
theorem lcd2_run {vs : List Nat} {Q : List D → Mu → Prop} (h : lcd2 Γ elt tg iter ifs tg1 iter1 ifs1 scope vs vs1 δ μ Q) (F σ H) (a : At Γ F δ μ σ H) :
    tLc2 (wi Γ.X tg iter) (wgB Γ.X scope tg) (wtB Γ.X scope ifs) (wiB Γ.X scope tg1 iter1) (wgB Γ.X scope tg1) (wtB Γ.X scope ifs1) (weB Γ.X scope elt) vs vs1 σ H (PostE Γ F δ σ fun d μ' => ∃ ds, d = .lst ds ∧ Q ds μ') := by
  refine wi_mono (h F σ H a) fun J H1 ⟨F1, ds, S, μ1, s1, a1, ok, I, h0, hS, hb, hd⟩ => fun Da hD => ?_
  have h0D : Γ.H0 Da = none ∨ Da ∈ dom Γ.μ0 := a1.st.back hD
  refine ⟨fun i m H' => m = ds.length - i ∧ i ≤ ds.length ∧ ∃ F' acc μ', LcAt Γ F1 δ σ Da acc μ' H' F' ∧ I i acc μ', ⟨ds.length, by simp, Nat.zero_le _, F1, [], μ1, ⟨Same.refl _, a1.ext (same_upd hD), ⟨[], upd_same, Dps.nil⟩, a1.sx.sub.free hD, fun hm => ?_⟩, h0⟩, ?_⟩
  · obtain ⟨c, hc, e⟩ := List.mem_map.mp hm
    obtain ⟨u, hu⟩ := (a1.sx.cells c hc).there
    rw [e, hD] at hu; cases hu
  rintro i m H' ⟨rfl, hi, F', acc, μ', L, hI⟩
  have hSi := hS i acc μ' hi hI
  by_cases hlt : i < ds.length
  · have e : ds[i]? = some ds[i] := List.getElem?_eq_getElem hlt
    have ah := L.at_.here
    obtain ⟨g1, g2⟩ := ok.go (Γ.here L.at_.st) rfl i F' δ μ' σ H' L.sm ah hSi _ e
    refine .inr ⟨g1, fun H2 => ∃ F2 acc2 μ2, LcAt Γ F1 δ σ Da acc2 μ2 H2 F2 ∧ I (i + 1) acc2 μ2, fun H2 ⟨F2, acc2, μ2, L2', q2⟩ => ⟨ds.length - (i + 1), by omega, rfl, hlt, F2, acc2, μ2, L2', q2⟩, fun x H2 y => ?_⟩
    obtain ⟨F2, s2, a2, r2⟩ := g2 x H2 y
    have LL := L.step (σb := σ) (δb := δ) a2.st a2.sx
    intro sB HB C cl fp
    have aB : At (Γ.blk scope sB HB C cl fp F2 μ' H2) F2 (wipeD δ vs) μ' (L2.wipe σ vs) H2 := ⟨Step.refl _ _ _, LL.at_.sx, LL.at_.fr.wipe vs⟩
    refine wg_mono (hb i _ acc μ' e hI sB HB C cl fp F2 μ' H2 F2 (L2.wipe σ vs) H2 x aB r2) fun σ3 H3 ⟨w3, F3, δ3, μ3, s3, a3, q3⟩ => ⟨w3.trans wipe_wipe, ?_⟩
    have L3 := LL.step (σb := σ) (δb := δ) a3.st a3.sx
    intro sB2 HB2 C2 cl2 fp2
    have aC : At (Γ.blk scope sB2 HB2 C2 cl2 fp2 F3 μ3 H3) F3 δ3 μ3 σ3 H3 := ⟨Step.refl _ _ _, a3.sx, a3.fr⟩
    refine eif_run (q3 sB2 HB2 C2 cl2 fp2 F3 μ3 H3) aC fun b H4 ⟨F4, μ4, s4, a4, q4⟩ => ?_
    have L4 := L3.step (σb := σ) (δb := δ) a4.st a4.sx
    cases b with
    | false =>
      rw [if_neg Bool.false_ne_true] at q4 ⊢
      exact ⟨F4, acc, μ4, L4, q4⟩
    | true =>
      rw [if_pos rfl] at q4 ⊢
      intro sB5 HB5 C5 cl5 fp5
      have aE : At (Γ.blk scope sB5 HB5 C5 cl5 fp5 F4 μ4 H4) F4 δ3 μ4 σ3 H4 := ⟨Step.refl _ _ _, a4.sx, a4.fr⟩
      refine wi_mono (q4 sB5 HB5 C5 cl5 fp5 F4 μ4 H4 F4 σ3 H4 aE) fun J1 H5 ⟨F5, ds1, S1, μ5, s5, a5, ok1, I1, i0, iS, ib, ie⟩ => ?_
      have L5 := L4.step (σb := σ) (δb := δ) a5.st a5.sx
      refine ⟨fun j k H' => k = ds1.length - j ∧ j ≤ ds1.length ∧ ∃ F' acc' μ', LcAt Γ F1 δ σ Da acc' μ' H' F' ∧ Same F5 F' ∧ I1 j acc' μ', ⟨ds1.length, by simp, Nat.zero_le _, F5, acc, μ5, L5, Same.refl _, i0⟩, ?_⟩
      rintro j k H6 ⟨rfl, hj, F6, acc6, μ6, L6, sm6, hI1⟩
      obtain ⟨hSj, hacc⟩ := iS j acc6 μ6 hj hI1
      by_cases hlt1 : j < ds1.length
      · have e1 : ds1[j]? = some ds1[j] := List.getElem?_eq_getElem hlt1
        have aI : At (Γ.blk scope sB5 HB5 C5 cl5 fp5 F6 μ6 H6) F6 δ3 μ6 σ3 H6 := ⟨Step.refl _ _ _, L6.at_.sx, a5.fr.mono sm6⟩
        obtain ⟨k1, k2⟩ := ok1.go (Γ.blk scope sB5 HB5 C5 cl5 fp5 F6 μ6 H6) rfl j F6 δ3 μ6 σ3 H6 sm6 aI hSj _ e1
        refine .inr ⟨k1, fun H7 => ∃ F7 acc7 μ7, LcAt Γ F1 δ σ Da acc7 μ7 H7 F7 ∧ Same F5 F7 ∧ I1 (j + 1) acc7 μ7, fun H7 ⟨F7, acc7, μ7, L7, sm7, q7⟩ => ⟨ds1.length - (j + 1), by omega, rfl, hlt1, F7, acc7, μ7, L7, sm7, q7⟩, fun x1 H7 y1 => ?_⟩
        obtain ⟨F7, s7, a7, r7⟩ := k2 x1 H7 y1
        have L7 := L6.step (σb := σ) (δb := δ) a7.st a7.sx
        intro sC HC D1 cl7 fp7
        have aF : At (Γ.blk scope sC HC D1 cl7 fp7 F7 μ6 H7) F7 (wipeD δ3 vs1) μ6 (L2.wipe σ3 vs1) H7 := ⟨Step.refl _ _ _, L7.at_.sx, a7.fr.wipe vs1⟩
        refine wg_mono (ib j _ acc6 μ6 e1 hI1 sC HC D1 cl7 fp7 F7 μ6 H7 F7 (L2.wipe σ3 vs1) H7 x1 aF r7) fun σ8 H8 ⟨w8, F8, δ8, μ8, s8, a8, q8⟩ => ⟨w8.trans wipe_wipe, ?_⟩
        have L8 := L7.step (σb := σ) (δb := δ) a8.st a8.sx
        intro sC2 HC2 D2 cl8 fp8
        have aG : At (Γ.blk scope sC2 HC2 D2 cl8 fp8 F8 μ8 H8) F8 δ8 μ8 σ8 H8 := ⟨Step.refl _ _ _, a8.sx, a8.fr⟩
        refine eif_run (q8 sC2 HC2 D2 cl8 fp8 F8 μ8 H8) aG fun b H9 ⟨F9, μ9, s9, a9, q9⟩ => ?_
        have L9 := L8.step (σb := σ) (δb := δ) a9.st a9.sx
        have smm : Same F5 F9 := ((sm6.trans s7).trans s8).trans s9
        cases b with
        | true =>
          rw [if_pos rfl] at q9 ⊢
          intro sC5 HC5 D5 cl9 fp9
          have aH : At (Γ.blk scope sC5 HC5 D5 cl9 fp9 F9 μ9 H9) F9 δ8 μ9 σ8 H9 := ⟨Step.refl _ _ _, a9.sx, a9.fr⟩
          refine we_mono (q9 sC5 HC5 D5 cl9 fp9 F9 μ9 H9 F9 σ8 H9 aH) fun v H10 ⟨F10, r, μ10, s10, a10, r10, q10⟩ => ?_
          have L10 := L9.step (σb := σ) (δb := δ) a10.st a10.sx
          obtain ⟨ws, g1', g2'⟩ := L10.ls
          refine ⟨ws, g1', ?_, F10, acc6 ++ [r], μ10, ⟨L10.sm, L10.at_.updFree h0D L10.f L10.m, ⟨ws ++ [v], upd_same, g2'.append (Dps.cons r10 Dps.nil)⟩, L10.f, L10.m⟩, smm.trans s10, q10⟩
          rw [← g2'.length, sizeLine_eq]
          omega
        | false =>
          rw [if_neg Bool.false_ne_true] at q9 ⊢
          exact ⟨F9, acc6, μ9, L9, smm, q9⟩
      · have ej : j = ds1.length := by omega
        subst ej
        have aI : At (Γ.blk scope sB5 HB5 C5 cl5 fp5 F6 μ6 H6) F6 δ3 μ6 σ3 H6 := ⟨Step.refl _ _ _, L6.at_.sx, a5.fr.mono sm6⟩
        exact .inl ⟨ok1.stop (Γ.blk scope sB5 HB5 C5 cl5 fp5 F6 μ6 H6) rfl _ F6 δ3 μ6 σ3 H6 sm6 aI hSj (Nat.le_refl _), F6, acc6, μ6, L6, ie acc6 μ6 hI1⟩
  · have e : i = ds.length := by omega
    subst e
    refine .inl ⟨ok.stop Γ rfl _ F' δ μ' σ H' L.sm L.at_ hSi (Nat.le_refl _), ?_⟩
    obtain ⟨ws, h1, h2⟩ := L.ls
    have sF := same_upd (o := HO.lst ws) L.f
    have ah := L.at_
    have a2 : At Γ (upd F' Da (.lst ws)) δ μ' σ H' := by
      refine ⟨⟨ah.st.ext.trans sF, ah.st.keep, fun b u h hn => ?_, ah.st.cell⟩, ⟨fun b u h => ?_, fun c hc => ?_, ah.sx.nd, fun c hc => (ah.sx.cells c hc).mono sF rfl⟩, ah.fr.mono sF⟩
      · by_cases q : b = Da
        · rw [q]; exact h0D
        · rw [upd_ne q] at h; exact ah.st.new b u h hn
      · by_cases q : b = Da
        · rw [q, upd_same] at h; rw [q, ← h]; exact h1
        · rw [upd_ne q] at h; exact ah.sx.sub _ _ h
      · rw [upd_ne (fun e => L.m (by rw [← e]; exact List.mem_map.mpr ⟨c, hc, rfl⟩))]; exact ah.sx.off c hc
    exact ⟨_, .lst acc, μ', s1.trans (L.sm.trans sF), a2, dpl upd_same (h2.mono sF), acc, rfl, hd acc μ' hI⟩
theorem ed_lc2 {own : List (Str × Nat)} {Q : D → Mu → Prop} (own_ : List (Str × Nat)) (e : own = own_) (hc : Γ.X.calm = true) (hN : Γ.X.N.Nodup) (ok : BlkOk Γ.X.N Γ.X.env.scope scope own) (hv : ∀ i ∈ vs1, i ∈ own.map (·.2)) (h : lcd2 Γ elt tg iter ifs tg1 iter1 ifs1 scope (own.map (·.2)) vs1 δ μ fun ds μ' => Q (.lst ds) μ')
    (hs : ∀ x, foldedSetIterable iter Γ.X.env x = pure x := by intro _; rfl) (hs1 : ∀ env x, foldedSetIterable iter1 env x = pure x := by intro _ _; rfl) : ed Γ (.ListComp elt [⟨tg, iter, ifs, 0⟩, ⟨tg1, iter1, ifs1, 0⟩] scope pos) δ μ Q := fun F σ H a =>
  we_mono (we_of (pe_lc2 hc hN pi_wi ok hv pg_wgB pts_wtB pi_wiB pg_wgB pts_wtB pe_weB hs hs1) (lcd2_run h F σ H a)) fun v H' ⟨F', d, μ', s, a', r, ds, e, q⟩ => ⟨F', d, μ', s, a', r, by rw [e]; exact q⟩
end
end PD
/-! PD32: *d of a dict; int(x), parts of slices as tests; other small rules. -/
namespace PD
open PySem PySem.Spec PyProof.Rows L2
end PD
/-! PD33: properties read. -/
namespace PD
open PySem PySem.Spec PyProof.Rows L2
end PD
/-! PD34: len of an own thing; own [ ]. -/
namespace PD
open PySem PySem.Spec PyProof.Rows L2
end PD
/-! PD35: numbers in lists: pop at a place, count, index, in; list(range(n)). -/
namespace PD
open PySem PySem.Spec PyProof.Rows L2
section
variable {Γ : Ct} {δ : Dl} {μ μ1 μ2 : Mu} {Q : D → Mu → Prop} {p : Addr}
theorem opd_inI {n : Int} {y : D} {xs : List D} (ns : List Int) (hs : SeqD μ y xs) (e : xs = ns.map .int) (q : Q (.bl (decide (n ∈ ns))) μ) : opd Γ (compareOp .In) (.int n) y δ μ Q := by
  subst e; exact opd_in hs rfl (PD.flat_ints ns) (by rw [inD_int]; exact q)
theorem opd_notInI {n : Int} {y : D} {xs : List D} (ns : List Int) (hs : SeqD μ y xs) (e : xs = ns.map .int) (q : Q (.bl (!decide (n ∈ ns))) μ) : opd Γ (compareOp .NotIn) (.int n) y δ μ Q := by
  subst e; exact opd_notIn hs rfl (PD.flat_ints ns) (by rw [inD_int]; exact q)
end
theorem isList_of {h : Heap} {a : Addr} {its : Array Value} (p : PlainL h a its) : h.IsList a its := by
  obtain ⟨o, n, h1, h2, h3, h4⟩ := p
  exact ⟨o, h1, h2, n, h4⟩
/-- xs != [], whatever the items -/
theorem opd_neNil {Γ : Ct} {δ : Dl} {μ : Mu} {Q : D → Mu → Prop} {xs : List D} (hu : Γ.X.A.units < cLine) (q : Q (.bl (!xs.isEmpty)) μ) : opd Γ (compareOp .NotEq) (.lst xs) (.lst []) δ μ Q := fun F σ H vx vy a r1 r2 pins s σ' v u I q1 q2 => by
  obtain ⟨p1, vs, rfl, g1, g2⟩ := dpL r1
  obtain ⟨p2, ws, rfl, g3, g4⟩ := dpL r2
  obtain rfl := g4.unnil
  obtain rfl : v = Value.ref p1 := q1
  obtain rfl : u = Value.ref p2 := q2
  obtain ⟨its, rv, hl, _⟩ := I.list (.inl (.inl (a.sx.sub _ _ g1)))
  obtain ⟨its2, rv2, hb, _⟩ := I.list (.inl (.inl (a.sx.sub _ _ g3)))
  obtain rfl : its2 = [] := by cases rv2; rfl
  have hn : xs.length = its.length := g2.length.trans rv.length
  refine PySem.W.cmp_ofNotEq ?_
  cases its with
  | nil =>
    have e : xs = [] := by cases xs with | nil => rfl | cons _ _ => cases hn
    subst e
    exact PySem.SeqAt.RcNeAt.lists (e := fun _ => true) (isList_of hl) (isList_of hb) rfl hu (fun j h1 _ => absurd h1 (Nat.not_lt_zero _)) _ _ _ _ ⟨.bl false, H, I, rfl, PostE.here a dpb q⟩
  | cons i its =>
    have e : xs.isEmpty = false := by cases xs with | nil => cases hn | cons _ _ => rfl
    rw [e] at q
    exact PySem.SeqAt.RcNeAt.lists_lengths (isList_of hl) (isList_of hb) (by simp) hu _ _ _ _ ⟨.bl true, H, I, rfl, PostE.here a dpb q⟩
theorem ga_same {K K' : PySem.W.Frag} {x : Str} (h : K = K') : He.ga K x = He.ga K' x := by rw [h]
end PD
/-! PD36: own [ ] that may raise. -/
namespace PD
open PySem PySem.Spec PyProof.Rows L2
end PD
/-! PD37: try .. except X: raise C(e) from None. -/
namespace PD
open PySem PySem.Spec PyProof.Rows L2
/-- what may leave a def goes on by its own way out -/
def OutOf (X : Cx) : Prop := ∃ (K : Value → Shared → Prop) (E₁ : Value → Shared → Prop), X.xe = fun e s' => wpAny (model X.prog X.w) X.A (leaving X.env e) (fun _ s'' => K e s'') E₁ s'
theorem OutOf.at_ {X : Cx} (o : OutOf X) (hd : Option Value) : PassesOwnAt (model X.prog X.w) (X.A.mark hd) X.A X.env X.xe := by
  obtain ⟨K, E, e⟩ := o
  exact L2H.passesAt_of e hd
theorem OutOf.here {X : Cx} (o : OutOf X) (hd : Option Value) : PassesOwn (model X.prog X.w) (X.A.mark hd) X.env X.xe := by
  obtain ⟨K, E, e⟩ := o
  rw [e]
  exact PassesOwnAt.leavingOf (SameStack.mark X.A hd)
/-- the context of an except suite that raises -/
@[reducible] def Ct.suiteX (Γ : Ct) (a : Addr) (pn : List (Addr × Obj)) (tk : L2.Takes (L2H.suiteX Γ.X a pn) (WofD Γ.X.K Γ.F0 Γ.μ0 Γ.H0 Γ.W)) (o : OutOf Γ.X) : Ct := ⟨L2H.suiteX Γ.X a pn, Γ.F0, Γ.μ0, Γ.H0, Γ.W, false, tk, o.here _⟩
end PD
/-! PD38: repr of plain data. -/
namespace PD
open PySem PySem.Spec PyProof.Rows L2
mutual
/-- plain data as the kit's reading of a value -/
def pyD : D → Option PyData
  | .non => some .none
  | .bl b => some (.bool b)
  | .int i => some (.int i)
  | .str x => some (.str x)
  | .lst xs => (pyDs xs).map .list
  | .rl xs => (pyDs xs).map .list
  | .tup xs => (pyDs xs).map .tuple
  | _ => none
def pyDs : List D → Option (List PyData)
  | [] => some []
  | x :: xs => match pyD x, pyDs xs with | some p, some ps => some (p :: ps) | _, _ => none
end
theorem pyDs_cons {x : D} {xs : List D} {ps : List PyData} (h : pyDs (x :: xs) = some ps) : ∃ p qs, pyD x = some p ∧ pyDs xs = some qs ∧ ps = p :: qs := by
  rw [pyDs] at h
  split at h
  · cases h; exact ⟨_, _, ‹_›, ‹_›, rfl⟩
  · cases h
section
variable {X : Cx} {pins : List (Addr × Obj)} {σ : L2.St} {F H : Hp} {s : Shared}
mutual
theorem reads_of (I : Inv X pins σ H s) (e : Same F H) : ∀ {d : D} {v : V} {u : Value} {p : PyData}, Dp X.K F d v → RelV v u → pyD d = some p → ∃ as, Reads s.heap u p as
  | .non, v, u, p, h, r, hp => by
    rw [Dp] at h; subst h; cases hp; cases r; exact ⟨_, .none⟩
  | .bl b, v, u, p, h, r, hp => by
    rw [Dp] at h; subst h; cases hp; cases r; exact ⟨_, .bool b⟩
  | .int i, v, u, p, h, r, hp => by
    rw [Dp] at h; subst h; cases hp; obtain ⟨t, rfl⟩ := r; exact ⟨_, .int i t⟩
  | .str x, v, u, p, h, r, hp => by
    rw [Dp] at h; subst h; cases hp; obtain ⟨t, rfl⟩ := r; exact ⟨_, .str x t⟩
  | .lst xs, v, u, p, h, r, hp => by
    rw [pyD] at hp
    cases e1 : pyDs xs with
    | none => rw [e1] at hp; cases hp
    | some ps =>
      rw [e1] at hp; cases hp
      rw [Dp] at h
      obtain ⟨a, vs, rfl, h2, h3⟩ := h
      cases r
      obtain ⟨its, rv, ⟨o, n, g1, g2, g3, g4⟩, hz⟩ := I.list (a := a) (xs := vs) (.inl (.inl (e _ _ h2)))
      obtain ⟨as, ra⟩ := readsAll_of I e h3 rv e1
      exact ⟨_, .list g1 g2 g4 (by simpa using ra)⟩
  | .rl xs, v, u, p, h, r, hp => by
    rw [pyD] at hp
    cases e1 : pyDs xs with
    | none => rw [e1] at hp; cases hp
    | some ps =>
      rw [e1] at hp; cases hp
      rw [Dp] at h
      obtain ⟨a, vs, rfl, h2, h3⟩ := h
      cases r
      obtain ⟨its, rv, ⟨o, n, g1, g2, g3, g4⟩, hz⟩ := I.list (a := a) (xs := vs) (e.seq h2)
      obtain ⟨as, ra⟩ := readsAll_of I e h3 rv e1
      exact ⟨_, .list g1 g2 g4 (by simpa using ra)⟩
  | .tup xs, v, u, p, h, r, hp => by
    rw [pyD] at hp
    cases e1 : pyDs xs with
    | none => rw [e1] at hp; cases hp
    | some ps =>
      rw [e1] at hp; cases hp
      rw [Dp] at h
      obtain ⟨a, vs, rfl, h2, h3⟩ := h
      cases r
      obtain ⟨its, rv, ⟨o, g1, g2, n, g4⟩, hz⟩ := I.tuple (a := a) (xs := vs) (Same.sqT e h2)
      obtain ⟨as, ra⟩ := readsAll_of I e h3 rv e1
      exact ⟨_, .tuple g1 g2 g4 (by simpa using ra)⟩
  | .ty _, v, u, p, h, r, hp => by rw [pyD] at hp <;> cases hp
  | .ref _, v, u, p, h, r, hp => by rw [pyD] at hp <;> cases hp
  | .obj _ _ _, v, u, p, h, r, hp => by rw [pyD] at hp <;> cases hp
  | .dK _ _, v, u, p, h, r, hp => by rw [pyD] at hp <;> cases hp
  | .slc _ _ _, v, u, p, h, r, hp => by rw [pyD] at hp <;> cases hp
  | .exv _ _ _, v, u, p, h, r, hp => by rw [pyD] at hp <;> cases hp
theorem readsAll_of (I : Inv X pins σ H s) (e : Same F H) : ∀ {ds : List D} {vs : List V} {us : List Value} {ps : List PyData}, Dps X.K F ds vs → Vals vs us → pyDs ds = some ps → ∃ as, ReadsAll s.heap us ps as
  | [], vs, us, ps, h, r, hp => by
    rw [h.unnil] at r; cases r; rw [pyDs] at hp; cases hp; exact ⟨_, .nil⟩
  | d :: ds, vs, us, ps, h, r, hp => by
    obtain ⟨v, ws, rfl, h1, h2⟩ := h.uncons
    obtain ⟨p, qs, e1, e2, rfl⟩ := pyDs_cons hp
    cases r with
    | cons r1 rs =>
      obtain ⟨as, ra⟩ := reads_of I e h1 r1 e1
      obtain ⟨bs, rb⟩ := readsAll_of I e h2 rs e2
      exact ⟨_, .cons ra rb⟩
end
end
mutual
theorem pyD_noDict : ∀ {d : D} {p : PyData}, pyD d = some p → p.hasDict = false
  | .non, p, h => by rw [pyD] at h; cases h; rw [PyData.hasDict]
  | .bl _, p, h => by rw [pyD] at h; cases h; rw [PyData.hasDict]
  | .int _, p, h => by rw [pyD] at h; cases h; rw [PyData.hasDict]
  | .str _, p, h => by rw [pyD] at h; cases h; rw [PyData.hasDict]
  | .lst xs, p, h => by
    rw [pyD] at h
    cases e1 : pyDs xs with
    | none => rw [e1] at h; cases h
    | some ps => rw [e1] at h; cases h; rw [PyData.hasDict]; exact pyDs_noDict e1
  | .rl xs, p, h => by
    rw [pyD] at h
    cases e1 : pyDs xs with
    | none => rw [e1] at h; cases h
    | some ps => rw [e1] at h; cases h; rw [PyData.hasDict]; exact pyDs_noDict e1
  | .tup xs, p, h => by
    rw [pyD] at h
    cases e1 : pyDs xs with
    | none => rw [e1] at h; cases h
    | some ps => rw [e1] at h; cases h; rw [PyData.hasDict]; exact pyDs_noDict e1
  | .ty _, p, h => by rw [pyD] at h <;> cases h
  | .ref _, p, h => by rw [pyD] at h <;> cases h
  | .obj _ _ _, p, h => by rw [pyD] at h <;> cases h
  | .dK _ _, p, h => by rw [pyD] at h <;> cases h
  | .slc _ _ _, p, h => by rw [pyD] at h <;> cases h
  | .exv _ _ _, p, h => by rw [pyD] at h <;> cases h
theorem pyDs_noDict : ∀ {ds : List D} {ps : List PyData}, pyDs ds = some ps → PyData.hasDictAll ps = false
  | [], ps, h => by rw [pyDs] at h; cases h; rw [PyData.hasDictAll]
  | d :: ds, ps, h => by
    obtain ⟨p, qs, e1, e2, rfl⟩ := pyDs_cons h
    rw [PyData.hasDictAll, pyD_noDict e1, pyDs_noDict e2]; rfl
end
section
variable {Γ : Ct} {δ : Dl} {μ : Mu} {Q : D → Mu → Prop} {k : Nat}
/-- repr of a list or a tuple of plain things -/
theorem cld_reprS (hr : Room k Γ.X.A) {d : D} {p : PyData} (hp : pyD d = some p) (hq : (∃ xs, d = .tup xs) ∨ (∃ xs, d = .lst xs) ∨ ∃ xs, d = .rl xs) (hs : p.showable = true) (hd : p.depth ≤ 60) (hz : p.shown.length ≤ sizeLine) (q : Q (.str p.shown) μ) :
    cld Γ (.builtin "repr") [d] δ μ Q := fun F σ H vs a r0 pins s σ' us I rs => by
  obtain ⟨v, rfl, r⟩ := r0.one
  cases rs with
  | cons r1 rs =>
    cases rs
    obtain ⟨as, rd⟩ := reads_of I a.sx.sub r r1 hp
    obtain ⟨b, rfl⟩ : ∃ b, v = .ref b := by
      rcases hq with ⟨xs, rfl⟩ | ⟨xs, rfl⟩ | ⟨xs, rfl⟩ <;> (rw [Dp] at r; obtain ⟨b, _, e, _⟩ := r; exact ⟨b, e⟩)
    cases r1
    refine repr_of_reads' rd hs (PyData.noDict_hsm (pyD_noDict hp)) hr.gd (by have := hr.units; omega) (fun _ _ e => e) (fun h' u tk hk => ?_) hz
    exact ⟨.str p.shown, H, I.kept hk, ⟨u, rfl⟩, PostE.here a (by rw [Dp]) q⟩
end
end PD
/-! PD39: displays of dicts with keys that are numbers and texts. -/
namespace PD
open PySem PySem.Spec PyProof.Rows L2
def trOf (X : Cx) : List (Option Expr) → List Expr → List (TE × TE)
  | some k :: ks, v :: vs => (we X k, we X v) :: trOf X ks vs
  | _, _ => []
theorem pps_of {X : Cx} {pos : Pos} : ∀ {ks : List (Option Expr)} {vs : List Expr}, ks.all (·.isSome) = true → ks.length = vs.length → PPs X pos ks vs (trOf X ks vs)
  | [], [], _, _ => pps_nil
  | some k :: ks, v :: vs, h, hl => pps_cons pe_we pe_we (pps_of (by simpa using h) (by simpa using hl))
  | none :: ks, _, h, _ => by simp at h
  | [], _ :: _, _, h => by simp at h
  | _ :: _, [], _, h => by simp at h
theorem tPairs_mono {X : Cx} {σ : L2.St} : ∀ {ks : List (Option Expr)} {vs : List Expr} {H : Hp} {Q Q' : List (V × V) → Hp → Prop}, tPairs (trOf X ks vs) σ H Q → (∀ ps H', Q ps H' → Q' ps H') → tPairs (trOf X ks vs) σ H Q'
  | some k :: ks, v :: vs, H, Q, Q', h, hq => by
    show we X k σ H _
    exact we_mono h fun x H1 h1 => we_mono h1 fun y H2 h2 => tPairs_mono h2 fun ps H3 h3 => hq _ _ h3
  | [], vs, H, Q, Q', h, hq => by unfold trOf at h ⊢; exact hq _ _ h
  | none :: ks, vs, H, Q, Q', h, hq => by unfold trOf at h ⊢; exact hq _ _ h
  | some k :: ks, [], H, Q, Q', h, hq => by unfold trOf at h ⊢; exact hq _ _ h
/-- the pairs of a display -/
def edp (Γ : Ct) (ks : List (Option Expr)) (vs : List Expr) (δ : Dl) (μ : Mu) (Q : Dic → Mu → Prop) : Prop := ∀ F σ H, At Γ F δ μ σ H → tPairs (trOf Γ.X ks vs) σ H fun ps H' => ∃ F' μ' kvs gs, Same F F' ∧ At Γ F' δ μ' σ H' ∧ KVd Γ.X.K F' kvs gs ∧ ps = gs.map (fun g => (kV g.1, g.2)) ∧ kvs.length ≤ ks.length ∧ Q kvs μ'
def mergeY (kvs : Dic) : Dic := kvs.foldl (fun acc kv => putY acc kv.1 kv.2) []
theorem kvd_merge {K : PySem.W.Frag} {F : Hp} : ∀ {kvs : Dic} {gs : List (Key × V)} {acc : Dic} {bcc : List (Key × V)}, KVd K F kvs gs → KVd K F acc bcc → KVd K F (kvs.foldl (fun acc kv => putY acc kv.1 kv.2) acc) (gs.foldl (fun acc kv => putK acc kv.1 kv.2) bcc)
  | [], gs, acc, bcc, h, ha => by rw [KVd] at h; subst h; exact ha
  | p :: r, gs, acc, bcc, h, ha => by
    rw [KVd] at h
    obtain ⟨q, t, rfl, e, d, hr⟩ := h
    rw [List.foldl_cons, List.foldl_cons]
    refine kvd_merge hr ?_
    rw [e]
    exact ha.put p.1 d
section
variable {Γ : Ct} {δ : Dl} {μ : Mu} {Q : D → Mu → Prop} {k v : Expr} {ks : List (Option Expr)} {vs : List Expr} {pos : Pos} {R : Dic → Mu → Prop}
theorem edp_nil (q : R [] μ) : edp Γ [] [] δ μ R := fun F σ H a => ⟨F, μ, [], [], Same.refl F, a, by rw [KVd], rfl, Nat.le_refl _, q⟩
theorem edp_cons (h : ed Γ k δ μ fun kd μ1 => ∃ key, kd = kD key ∧ ed Γ v δ μ1 fun d μ2 => edp Γ ks vs δ μ2 fun kvs μ3 => R ((key, d) :: kvs) μ3) : edp Γ (some k :: ks) (v :: vs) δ μ R := fun F σ H a => by
  show we Γ.X k σ H _
  refine we_mono (h F σ H a) fun x H1 h1 => ?_
  obtain ⟨F1, kd, μ1, s1, a1, r1, key, rfl, hv⟩ := h1
  refine we_mono (hv F1 σ H1 a1) fun y H2 h2 => ?_
  obtain ⟨F2, d, μ2, s2, a2, r2, hr⟩ := h2
  refine tPairs_mono (hr F2 σ H2 a2) fun ps H3 h3 => ?_
  obtain ⟨F3, μ3, kvs, gs, s3, a3, hk, rfl, hl, q⟩ := h3
  have ex := dpK r1
  subst ex
  exact ⟨F3, μ3, (key, d) :: kvs, (key, y) :: gs, (s1.trans s2).trans s3, a3, by rw [KVd]; exact ⟨_, _, rfl, rfl, r2.mono s3, hk⟩, rfl, by simpa using hl, q⟩
/-- {k: v, ..} -/
theorem ed_disp (h : ∀ p, edp Γ ks vs δ ((p, dic []) :: μ) fun kvs μ' => ∃ μ1 μ2, μ' = μ1 ++ (p, dic []) :: μ2 ∧ Q (.ref p) (μ1 ++ (p, dic (mergeY kvs)) :: μ2)) (hall : ks.all (·.isSome) = true := by rfl) (hl : ks.length = vs.length := by rfl) (h0 : ks ≠ [] := by simp) (h15 : ks.length ≤ 15 := by simp) :
    ed Γ (.Dict ks vs pos) δ μ Q := fun F σ H a => by
  refine we_of (pe_disp (pps_of hall hl) hall hl h0 h15) ?_
  intro p hp
  have a0 := a.own (c := dic []) hp (cellOk_dic (kvs := []) (gs := []) upd_same (by rw [KVd]))
  refine tPairs_mono (h p F σ _ a0) fun ps H2 h2 => ?_
  obtain ⟨F2, μ2, kvs, gs, s2, a2, hk, rfl, hlk, μa, μb, rfl, q⟩ := h2
  obtain ⟨gs0, e0, k0⟩ := cell_dic a2 (p := p) (kvs := []) (by simp)
  rw [KVd] at k0
  subst k0
  refine ⟨e0, gs, rfl, by rw [← hk.length]; omega, ?_⟩
  refine ⟨F2, .ref p, _, s2, a2.put (c' := dic (mergeY kvs)) (cellOk_dic upd_same (kvd_merge hk (by rw [KVd]))), by rw [Dp], q⟩
end
end PD
/-! PD40: xs.extend(tuple). -/
namespace PySem
end PySem
namespace PD
open PySem PySem.Spec PyProof.Rows L2
end PD
/-! PD41: slices with steps, slice objects handed to own [ ]. -/
namespace PDS
open PySem PySem.Spec PyProof.Rows
end PDS
/-! ### the class of a slice object -/
namespace PDS
open PySem
end PDS
namespace PD
open PySem PySem.Spec PyProof.Rows L2 PDS
/-- a part of a slice: None or a number -/
def PartD (d : D) (o : Option Int) : Prop := (d = .non ∧ o = none) ∨ ∃ i, d = .int i ∧ o = some i
def ep (Γ : Ct) (e : Option Expr) (δ : Dl) (μ : Mu) (Q : Option Int → Mu → Prop) : Prop := match e with
  | none => Q none μ
  | some e => ed Γ e δ μ fun d μ' => ∃ o, PartD d o ∧ Q o μ'
end PD
/-! PD42: own [ ] with slices. -/
namespace PD
open PySem PySem.Spec PyProof.Rows L2 PDS
/-! ### what a slice takes -/
end PD
/-! PD43: match on a text, with texts and _ as patterns. -/
namespace PD
open PySem PySem.Spec PyProof.Rows L2
end PD
/-! PD44: instances that stay owned. -/
namespace PD
open PySem PySem.Spec PyProof.Rows L2
end PD
/-! PD45: o.f op= e, o owned. -/
namespace PD
open PySem PySem.Spec PyProof.Rows L2
end PD
/-! PD46: list(d.values()), list(d.items()). -/
namespace PD
open PySem PySem.Spec PyProof.Rows L2
section
variable {X : Cx}
theorem vals_refs : ∀ as : List Addr, Vals (as.map V.ref) (as.map Value.ref)
  | [] => .nil
  | a :: as => .cons rfl (vals_refs as)
end
end PD
/-! PD47: cells in another order. -/
namespace PD
end PD
/-! PD48: a call of an own thing that has __call__. -/
namespace PD
open PySem PySem.Spec PyProof.Rows L2
end PD
/-! PD49: a text no times or once. -/
namespace PD
open PySem PySem.Spec PyProof.Rows L2
end PD
/-! PD50: a comprehension without a condition: as many things as there were. -/
namespace PD
open PySem PySem.Spec PyProof.Rows L2
section
variable {Γ : Ct} {elt tg iter : Expr} {ifs : List Expr} {scope : Scope} {vs : List Nat} {δ : Dl} {μ : Mu} {Q : List D → Mu → Prop}
theorem lcd_allN (W : Mu → Prop) (R : D → Prop) (h : eid Γ tg iter δ μ fun ds S μ1 => ds.length ≤ 1000000 ∧ W μ1 ∧ (∀ μ', W μ' → S μ') ∧
      (∀ d ∈ ds, ∀ μ', W μ' → allB Γ scope fun Γb => gv Γb tg d vs (wipeD δ vs) μ' fun δ2 μ2 => allB Γ scope fun Γc => eif Γc ifs δ2 μ2 fun b μ3 => b = true ∧ allB Γ scope fun Γd => ed Γd elt δ2 μ3 fun r μ4 => R r ∧ W μ4) ∧
      ∀ acc μ', (∀ r ∈ acc, R r) → acc.length = ds.length → W μ' → Q acc μ') : lcd Γ elt tg iter ifs scope vs δ μ Q := fun F σ H a => wi_mono (h F σ H a) fun J H1 ⟨F1, ds, S, μ1, s1, a1, ok, hz, hW, hS, hb, hq⟩ => by
  refine ⟨F1, ds, S, μ1, s1, a1, ok, hz, fun i acc μ' => (∀ r ∈ acc, R r) ∧ acc.length = i ∧ W μ', ⟨fun _ z => (List.not_mem_nil z).elim, rfl, hW⟩, fun i acc μ' _ z => ⟨hS μ' z.2.2, Nat.le_of_eq z.2.1⟩, ?_, fun acc μ' z => hq acc μ' z.1 z.2.1 z.2.2⟩
  rintro i d acc μ' hd ⟨z1, z2, z3⟩
  intro s H C cl fp F0 μ0 H0 F2 σ2 H2 v a2 r2
  refine wg_mono (hb d (List.mem_of_getElem? hd) μ' z3 s H C cl fp F0 μ0 H0 F2 σ2 H2 v a2 r2) fun σ3 H3 ⟨w3, F3, δ3, μ3, s3, a3, q3⟩ => ⟨w3, F3, δ3, μ3, s3, a3, ?_⟩
  intro s' H' C' cl' fp' F0' μ0' H0'
  have key : ∀ {b : Bool} {μ4 : Mu}, (b = true ∧ allB Γ scope fun Γd => ed Γd elt δ3 μ4 fun r μ5 => R r ∧ W μ5) →
      if b = true then allB Γ scope fun Γd => ed Γd elt δ3 μ4 fun r μ5 => (∀ r' ∈ acc ++ [r], R r') ∧ (acc ++ [r]).length = i + 1 ∧ W μ5 else (∀ r' ∈ acc, R r') ∧ acc.length = i + 1 ∧ W μ4 := by
    rintro b μ4 ⟨rfl, z⟩
    intro s2 H2' C2 cl2 fp2 F02 μ02 H02 F5 σ5 H5 a5
    refine we_mono (z s2 H2' C2 cl2 fp2 F02 μ02 H02 F5 σ5 H5 a5) fun v' H6 ⟨F6, r, μ6, s6, a6, r6, q1, q2⟩ => ⟨F6, r, μ6, s6, a6, r6, fun r' hr' => ?_, by rw [List.length_append, z2]; rfl, q2⟩
    rcases List.mem_append.mp hr' with e | e
    · exact z1 r' e
    · rw [List.mem_singleton.mp e]; exact q1
  have q4 := q3 s' H' C' cl' fp' F0' μ0' H0'
  match ifs, q4 with
  | [], q4 => exact key (b := true) (μ4 := μ3) q4
  | [c], q4 => exact fun F5 σ5 H5 a5 => wt_mono (q4 F5 σ5 H5 a5) fun b H6 ⟨F6, μ6, s6, a6, q6⟩ => ⟨F6, μ6, s6, a6, key q6⟩
end
end PD
/-! PD51: sorted(set(..)) of many ints with few members. -/
namespace PD
open PySem PySem.Spec PyProof.Rows L2
end PD
/-! PD52: a call of an own thing that has __call__, told by any expression. -/
namespace PD
open PySem PySem.Spec PyProof.Rows L2
end PD
/-! PD53: sorted of a list of texts, of ints. -/
namespace PD
open PySem PySem.Spec PyProof.Rows L2
/-! two ascending lists of the same texts are the same -/
end PD
/-! PD54: dict comprehensions. -/
namespace PD
open PySem PySem.Spec PyProof.Rows L2
section
variable {Γ : Ct} {kx vx tg iter : Expr} {ifs : List Expr} {scope : Scope} {own : List (Str × Nat)} {pos : Pos} {δ : Dl} {μ : Mu}
theorem KVd.mono {K : PySem.W.Frag} {F F' : Hp} {kvs : Dic} {gs : List (Key × V)} (h : KVd K F kvs gs) (s : Same F F') : KVd K F' kvs gs := kvd_of h.keys (h.vals.mono s)
structure DcAt (Γ : Ct) (F1 : Hp) (δ : Dl) (σ : L2.St) (Da : Addr) (acc : Dic) (μ : Mu) (H F : Hp) : Prop where
  sm : Same F1 F
  at_ : At Γ F δ μ σ H
  ls : ∃ gs, H Da = some (.dK gs) ∧ KVd Γ.X.K F acc gs
  f : F Da = none
  m : Da ∉ dom μ
theorem DcAt.step {F1 F F2 H H2 : Hp} {σ : L2.St} {Da : Addr} {acc : Dic} {μ μ2 : Mu} (L : DcAt Γ F1 δ σ Da acc μ H F) (st : Step F μ H F2 μ2 H2) (sx : Sx Γ.X.K F2 μ2 H2) : DcAt Γ F1 δ σ Da acc μ2 H2 F2 := by
  obtain ⟨vs, h1, h2⟩ := L.ls
  refine ⟨L.sm.trans st.ext, ⟨L.at_.st.trans st, sx, L.at_.fr.mono st.ext⟩, ⟨vs, st.keep _ _ h1 L.m, h2.mono st.ext⟩, ?_, fun hm => ?_⟩
  · cases e : F2 Da with
    | none => rfl
    | some o =>
      rcases st.new _ _ e L.f with q | q
      · rw [h1] at q; cases q
      · exact absurd q L.m
  · rcases st.cell _ hm with q | q
    · exact L.m q
    · rw [h1] at q; cases q
theorem putY_new {kvs : Dic} {k : Key} {d : D} (h : k ∉ kvs.map (·.1)) : putY kvs k d = kvs ++ [(k, d)] := by
  unfold putY
  rw [if_neg]
  intro z
  obtain ⟨kv, hkv, e⟩ := List.any_eq_true.mp z
  exact h (by rw [← of_decide_eq_true e]; exact List.mem_map.mpr ⟨kv, hkv, rfl⟩)
end
end PD
/-! PD55: what the top has written, looked at in pieces. -/
namespace PD
open PySem PySem.Spec PyProof.Rows L2 PySem.W HandSHeadRun
/-- what the top has written, seen at told addresses -/
def obsL (as : List Addr) (fa : List He.Fa) (fn : List He.DefD) (fx : List He5.DefA) (ts : List He.Tab) (ex : PySem.W.Frag → Bool) (g : Addr → Option Obj) : AlP := sayP fa fn fx ts ex (He.frT g as)
def hookL (as : List Addr) (fa : List He.Fa) (fn : List He.DefD) (fx : List He5.DefA) (ts : List He.Tab) (ex : PySem.W.Frag → Bool) : PySem.W.Hook where
  α := AlP
  obs := fun s => obsL as fa fn fx ts ex s.heap.get?
  val := fun w => valP fn fx ts w
  says := fun w h => ∃ K : PySem.W.Frag, K.In h ∧ sayP fa fn fx ts ex K = valP fn fx ts w
  of := fun _ _ e => ⟨_, He.frT_in, e⟩
  keeps := fun _ _ _ ⟨K, hK, c⟩ k => ⟨K, PySem.W.Frag.In.keeps hK k, c⟩
theorem obsL_eq {as : List Addr} {fa : List He.Fa} {fn : List He.DefD} {fx : List He5.DefA} {ts : List He.Tab} {ex : PySem.W.Frag → Bool} {g : Addr → Option Obj} {s : Shared} (h : ∀ a, g a = s.heap.get? a) : obsL as fa fn fx ts ex g = (hookL as fa fn fx ts ex).obs s := by
  have e : g = s.heap.get? := funext h
  rw [e] <;> rfl
end PD
/-! PD56: zip of two lists, dict of pairs, == of dicts of ints, names two blocks deep. -/
namespace PD
open PySem PySem.Spec PyProof.Rows L2
/-! ### names two blocks deep -/
end PD
/-! PD57: d.update(another dict). -/
namespace PD
open PySem PySem.Spec PyProof.Rows L2
end PD
/-! PD58: x or y of None or a tuple with something in it. -/
namespace PD
open PySem PySem.Spec PyProof.Rows L2
end PD
/-! PD59: own `op=` by the class's own method. -/
namespace PD
open PySem PySem.Spec PyProof.Rows L2
end PD
/-! PD60: != of two sets of ints. -/
namespace PD
open PySem PySem.Spec PyProof.Rows L2
/-! ### in the layer -/
end PD
/-! PD61: slices of a list that is still held. -/
namespace PD
open PySem PySem.Spec PyProof.Rows L2
section
variable {Γ : Ct} {δ : Dl} {μ : Mu} {Q : D → Mu → Prop}
theorem slc_own {p : Addr} {xs : List D} {lo hi : Option Int} (hm : (p, Cell.lst xs) ∈ μ) (q : Q (.lst (cutD xs lo hi)) μ) : slc Γ (.ref p) lo hi δ μ Q := fun F σ H vx a r1 => .inl (by
  rw [dpR r1]
  obtain ⟨vs, h1, h2⟩ := a.sx.cells _ hm
  refine ⟨p, vs, rfl, .inl (.inl h1), fun p' hp => ?_⟩
  have sF := same_upd (o := HO.lst (cutV vs lo hi)) (a.sx.sub.free hp)
  refine PostE.new a hp (dpl upd_same (Dps.mono sF ?_)) q
  unfold cutV cutD
  rw [← h2.length]
  exact (h2.drop _).take _)
end
end PD
/-! PD62: != [] of a list that is still held. -/
namespace PD
open PySem PySem.Spec PyProof.Rows L2
end PD
/-! PD63: str of a tuple or a list of plain data; how long what is shown may be. -/
namespace PD
open PySem PySem.Spec PyProof.Rows L2
end PD
/-! PD64: for p in d.items(), p one name: each pair a tuple of its own. -/
namespace PD
open PySem PySem.Spec PyProof.Rows L2 PySem.W
end PD
/-! PD65: a dict that is locked behind an expression, for good. -/
namespace PD
open PySem PySem.Spec PyProof.Rows L2 PySem.W
end PD
/-! PD66: where a token is out: text.replace(old, new) of written texts. -/
namespace PD
open PySem PySem.Spec PyProof.Rows L2
end PD
/-! PD67: == of dicts whose values are ints or None. -/
namespace PD
open PySem PySem.Spec PyProof.Rows L2 PySem.W
end PD
/-! PD68: try .. except X as n: raise C(e) from n. -/
namespace PD
open PySem PySem.Spec PyProof.Rows L2
/-- the record behind «from»: the cause, and that the context is not told -/
def fromO (o : Obj) (c : Value) : Obj := (o.mapFields fun vs => vs.setIfInBounds 3 c).mapFields fun vs => vs.setIfInBounds 4 (.bool true)
def fromH (h : Heap) (a : Addr) (c : Value) : Heap := (h.update a (Obj.mapFields fun vs => vs.setIfInBounds 3 c)).update a (Obj.mapFields fun vs => vs.setIfInBounds 4 (.bool true))
theorem fromH_at {h : Heap} {a : Addr} {oe : Obj} {vs : Array Value} {c : Value} (g : h.get? a = some oe) (d : oe.data = .fields vs) :
    ((h.update a (Obj.mapFields fun vs => vs.setIfInBounds 3 c)).get? a = some (oe.mapFields fun vs => vs.setIfInBounds 3 c) ∧ (oe.mapFields fun vs => vs.setIfInBounds 3 c).data = .fields (vs.setIfInBounds 3 c)) ∧ (fromH h a c).get? a = some (fromO oe c) ∧ (fromO oe c).data = .fields ((vs.setIfInBounds 3 c).setIfInBounds 4 (.bool true)) := by
  have d3 := Obj.data_mapFields d fun vs => vs.setIfInBounds 3 c
  have g3 := Heap.get?_update_self (Obj.mapFields fun vs => vs.setIfInBounds 3 c) g (Obj.isFreed_of_fields d3)
  have d4 := Obj.data_mapFields d3 fun vs => vs.setIfInBounds 4 (.bool true)
  exact ⟨⟨g3, d3⟩, Heap.get?_update_self _ g3 (Obj.isFreed_of_fields d4), d4⟩
theorem fromH_ne {h : Heap} {a b : Addr} {c : Value} (n : a ≠ b) : (fromH h a c).get? b = h.get? b := by
  show ((h.update a _).update a _).get? b = _
  rw [Heap.get?_update_other _ _ n, Heap.get?_update_other _ _ n]
/-- the context of an except suite that may raise, its exceptions met by E -/
abbrev sufX (X : Cx) (a : Addr) (pn : List (Addr × Obj)) (E : Value → Shared → Prop) : Cx := { X with A := X.A.mark (some (.ref a)), calm := false, pn := pn, xe := E }
end PD
/-! PD69: raise .. from in a suite whose exception has a context of its own. -/
namespace PD
open PySem PySem.Spec PyProof.Rows L2
/-- a context that the new exception at a does not close to a circle -/
def Chain (h : Heap) (a : Addr) (c : Value) : Prop := c = .none ∨ ∃ (x : Addr) (o : Obj) (vs : Array Value), c = .ref x ∧ h.get? x = some o ∧ o.data = .fields vs ∧ vs[2]? = some .none ∧ x ≠ a
section
variable {prog : Program} {w : World} {A : Around} {E : Value → Shared → Prop} {s : Shared}
theorem unchainM {x1 a : Addr} {o1 : Obj} {v1 : Array Value} {c : Value} {Q : Value → Shared → Prop} (g1 : s.heap.get? x1 = some o1) (d1 : o1.data = .fields v1) (f1 : v1[2]? = some c) (hc : Chain s.heap a c) (q : Q .none s) :
    wpAny (model prog w) A (holding [Value.ref a] (runValue (.builtin "proto.unchain" ⟨[.ref a, .ref x1, .ref x1, .bool false], []⟩))) Q E s := by
  rcases hc with rfl | ⟨x, o, vs, rfl, g2, d2, f2, nx⟩
  · exact HotX.unchained g1 d1 f1 q
  · have n1 : x ≠ x1 := fun e => by
      subst e
      rw [g1] at g2
      cases g2
      rw [d1] at d2
      cases d2
      rw [f1] at f2
      cases f2
    refine wpAny_holding (wpAny_runValue (codeAny_builtin HotX.entry_unchain ?_))
    show wpAny _ _ (field (.ref x1) 2 >>= _) _ _ s
    refine wpAny_bind (wpAny_field g1 d1 f1 ?_)
    rw [if_neg (show ¬ ((Value.ref x == Value.none) = true) from by simp)]
    have b1 : ¬ ((Value.ref x == Value.ref a) = true) := by simp [nx]
    have b2 : ¬ ((Value.ref x == Value.ref x1) = true) := by simp [n1]
    rw [if_neg b1, if_neg b2]
    dsimp only
    rw [if_neg (by decide)]
    refine wpAny_bind (wpAny_pure ?_)
    unfold again
    refine wpAny_pure ⟨plainId_quiet (by decide +kernel) _, codeAny_builtin HotX.entry_unchain ?_⟩
    show wpAny _ _ (field (.ref x) 2 >>= _) _ _ s
    refine wpAny_bind (wpAny_field g2 d2 f2 ?_)
    rw [if_pos (show (Value.none == Value.none) = true from rfl)]
    first
    | exact wpAny_bind (wpAny_pure (wpAny_pure q))
    | exact wpAny_pure q
theorem raiseNewM {α : Type} {a x1 : Addr} {oe o1 : Obj} {vs v1 : Array Value} {c : Value} {Q : α → Shared → Prop} (hh : A.handled = some (.ref x1)) (g1 : s.heap.get? x1 = some o1) (d1 : o1.data = .fields v1) (f1 : v1[2]? = some c) (hc : Chain s.heap a c) (ne : x1 ≠ a)
    (ga : s.heap.get? a = some oe) (da : oe.data = .fields vs) (hi : 2 < vs.size) (hE : E (.ref a) { s with heap := s.heap.update a (Obj.mapFields (·.setIfInBounds 2 (.ref x1))) }) : wpAny (model prog w) A (raiseNew (.ref a) : Sem α) Q E s := by
  unfold raiseNew
  refine wpAny_bind (wpAny_handled ?_)
  rw [hh]
  have hb : (Value.ref x1 != Value.ref a) = true := HotX.ref_bne ne
  first
  | (show wpAny _ _ (if (Value.ref x1 != Value.ref a) = true then _ else _) _ _ _
     rw [if_pos hb]
     first
     | exact wpAny_bind (unchainM g1 d1 f1 hc (wpAny_bind (HotX.chained ga da hi (wpAny_throw hE))))
     | exact wpAny_bind (wpAny_bind (unchainM g1 d1 f1 hc (HotX.chained ga da hi (wpAny_throw hE)))))
  | (refine wpAny_bind ?_
     show wpAny _ _ (if (Value.ref x1 != Value.ref a) = true then _ else _) _ _ _
     rw [if_pos hb]
     exact wpAny_bind (unchainM g1 d1 f1 hc (HotX.chained ga da hi (wpAny_throw hE))))
end
/-- raise .. from: the cause cz is None or the exception x1 that is handled, whose context is c1 -/
theorem raise_fromM {prog : Program} {w : World} {A : Around} {E : Value → Shared → Prop} {env : Env} {s : Shared} {x c : Sem Value} {Q : Flow → Shared → Prop} {x1 : Addr} {cz : Value} (hcz : cz = .none ∨ cz = .ref x1)
    (h : wpAny (model prog w) A x (fun v s1 => ∃ a oe vs cls o1 v1 c1, v = .ref a ∧ s1.heap.get? a = some oe ∧ oe.cls = cls ∧ oe.data = .fields vs ∧ vs[1]? = some .none ∧ 4 < vs.size ∧ x1 ≠ a ∧ A.handled = some (.ref x1) ∧ s1.heap.get? x1 = some o1 ∧ o1.data = .fields v1 ∧ v1[2]? = some c1 ∧ Chain s1.heap a c1 ∧
      (∀ Q' : Value → Shared → Prop, Q' cz s1 → wpAny (model prog w) A c Q' E s1) ∧
      PySem.W.Looks (model prog w) s1.heap (isSubtype cls (.type "BaseException")) true ∧ (cz = .ref x1 → PySem.W.Looks (model prog w) s1.heap (isSubtype o1.cls (.type "BaseException")) true) ∧ PySem.W.Looks (model prog w) (fromH s1.heap a cz) (typeOf cls) (.type "type") ∧
      E (.ref a) { s1 with heap := (fromH s1.heap a cz).update a (Obj.mapFields (·.setIfInBounds 2 (.ref x1))) }) E s) :
    wpAny (model prog w) A (raiseStmt env (some x) (some c)) Q E s := by
  unfold raiseStmt
  dsimp only
  refine wpAny_bind (wpAny_mono h (fun v s1 z => ?_) fun _ _ y => y)
  obtain ⟨a, oe, vs, cls, o1, v1, c1, rfl, ga, hcls, da, f1, n4, ne, hh, g1, d1, fc, hch, hc, L1, Lc, L3, hE⟩ := z
  have LA : PySem.W.Looks (model prog w) s1.heap (typeOf (.ref a)) cls := fun A Q E s k q => wpAny_typeOf_ref (k _ _ ga) (by rw [hcls]; exact q)
  have LB : PySem.W.Looks (model prog w) s1.heap (typeOf (.ref x1)) o1.cls := fun A Q E s k q => wpAny_typeOf_ref (k _ _ g1) q
  have notT : ∀ {b : Addr} {ob : Obj} {vb : Array Value} {s' : Shared} {Q' : Bool → Shared → Prop}, s'.heap.get? b = some ob → ob.data = .fields vb → Q' false s' → wpAny (model prog w) A (isType (.ref b)) Q' E s' := by
    intro b ob vb s' Q' gb db q
    simp only [isType, loadHead]
    refine wpAny_bind (wpAny_loadPart gb ?_)
    rw [db]; exact wpAny_pure q
  obtain ⟨⟨g3, d3⟩, g4, d4⟩ := fromH_at (c := cz) ga da
  have s3 : 3 < vs.size := by omega
  have s4 : 4 < (vs.setIfInBounds 3 cz).size := by rw [HotX.set_size]; exact n4
  have s2 : 2 < ((vs.setIfInBounds 3 cz).setIfInBounds 4 (Value.bool true)).size := by rw [HotX.set_size, HotX.set_size]; omega
  have f14 : ((vs.setIfInBounds 3 cz).setIfInBounds 4 (Value.bool true))[1]? = some Value.none := HotX.set_other (by decide) (HotX.set_other (by decide) f1)
  have k4 : (fromO oe cz).cls = cls := by unfold fromO; rw [Obj.cls_mapFields, Obj.cls_mapFields]; exact hcls
  have LD : PySem.W.Looks (model prog w) (fromH s1.heap a cz) (typeOf (.ref a)) cls := fun A Q E s k q => wpAny_typeOf_ref (k _ _ g4) (by rw [k4]; exact q)
  have ch4 : Chain (fromH s1.heap a cz) a c1 := by
    rcases hch with rfl | ⟨y, o, vy, rfl, gy, dy, fy, ny⟩
    · exact .inl rfl
    · exact .inr ⟨y, o, vy, rfl, by rw [fromH_ne (Ne.symm ny)]; exact gy, dy, fy, ny⟩
  have rest : wpAny (model prog w) A (do
      let b ← isType (.ref a)
      if b = true then do
        let e ← holding [.ref a] (raisedFor (.ref a) (.ref a))
        setFlight e none
        raiseNew e
      else do
        let e ← raisedInstance (.ref a)
        setFlight e none
        raiseNew e : Sem Flow) Q E { s1 with heap := fromH s1.heap a cz } := by
    refine wpAny_bind (notT g4 d4 ?_)
    simp only [Bool.false_eq_true, if_false]
    unfold raisedInstance
    refine wpAny_bind (wpAny_bind (LD.here (wpAny_bind (L3.here ?_))))
    rw [if_pos (beq_self_eq_true _)]
    refine wpAny_pure ?_
    unfold setFlight
    refine wpAny_bind (wpAny_bind (wpAny_field g4 d4 f14 ?_))
    rw [if_neg (by decide)]
    refine wpAny_pure ?_
    exact raiseNewM hh (by rw [fromH_ne (Ne.symm ne)]; exact g1) d1 fc ch4 ne g4 d4 s2 hE
  refine wpAny_bind (wpAny_holding (hc _ (wpAny_bind (wpAny_pure ?_))))
  dsimp only
  refine wpAny_bind (wpAny_holding ?_)
  unfold excFromValue isExcClass
  refine wpAny_bind (wpAny_bind (notT ga da ?_))
  simp only [Bool.false_eq_true, if_false]
  refine wpAny_pure ?_
  simp only [Bool.false_eq_true, if_false]
  refine wpAny_bind ((LA.andThen L1).here ?_)
  simp only [if_true]
  refine wpAny_pure ?_
  rcases hcz with rfl | rfl
  · rw [if_pos (show (Value.none == Value.none) = true from rfl)]
    refine wpAny_bind (wpAny_pure (wpAny_bind (wpAny_setField ga da s3 (wpAny_bind (wpAny_setField g3 d3 s4 ?_)))))
    exact rest
  · rw [if_neg (show ¬ ((Value.ref x1 == Value.none) = true) from by simp)]
    refine wpAny_bind (wpAny_holding ?_)
    refine wpAny_bind (wpAny_bind (notT g1 d1 ?_))
    simp only [Bool.false_eq_true, if_false]
    refine wpAny_pure ?_
    simp only [Bool.false_eq_true, if_false]
    refine wpAny_bind ((LB.andThen (Lc rfl)).here ?_)
    simp only [if_true]
    refine wpAny_pure ?_
    refine wpAny_bind (wpAny_setField ga da s3 (wpAny_bind (wpAny_setField g3 d3 s4 ?_)))
    exact rest
/-! ### a def stepped through where any exception is handled -/
structure FnX (P : Program) (w : World) (K : PySem.W.Frag) (mg : Str → Option Value) (base : Heap) (CX : CXT) (k : Nat) (f : Addr) (fd : FuncData) (ps : List Str) (sp : Sp) : Prop where
  len : ∀ vs H Q E, sp vs H Q E → vs.length = ps.length
  run : ∀ (A : Around) (outer : List Env) (s : Shared) (H : Hp) (args : Args) (us : List Value) (vs : List V) (Q : VK) (E : XK) (p : Addr × Obj), L2H.RoomH k A → L2H.PinOk outer H s p → Env0 P w K mg base A outer s H → BindsTo s fd args (ps.zip us) → Vals vs us → sp vs H Q E →
    codeAny (model P w) A (.call (.ref f) args) (CR CX outer P w H s Q E) s
theorem okX {P : Program} {w : World} {K : PySem.W.Frag} {mg : Str → Option Value} {base : Heap} {CX : CXT} {k : Nat} {f : Addr} {fd : FuncData} {ps : List Str} {sp : Sp} {x qual : Str} {params : Arguments} {body : List Stmt} {scope : Scope} {dvs : List V} {kws : List (Str × V)} {N : List Str}
    (F : FunD K x qual params body scope dvs kws f fd) (S : FnScope N ps scope) (len : ∀ vs H Q E, sp vs H Q E → vs.length = ps.length)
    (hb : ∀ (cdv : Value) (A : Around) (outer : List Env) (s : Shared) (H : Hp) (vs : List V) (Q : VK) (E : XK) (p : Addr × Obj), sp vs H Q E → ∃ t, PSs (L2H.cxH CX P w K mg base N qual scope f cdv A outer s H E p) body t ∧ t { nx := fun _ H' => Q .non H', rt := Q } (L2.start N vs) H) :
    FnX P w K mg base CX (k + 1) f fd ps sp := by
  obtain ⟨oc, od, dV, kV, doc, pm, an, cdv, ct, osl, rfl, look, code, _, _⟩ := F.ex
  refine ⟨len, fun A outer s H args us vs Q E p room pin e0 bound rel want => ?_⟩
  have kin : K.In s.heap := e0.mod.kin.keeps fun c o e => (e0.bs c o e).1
  have kinds : ∀ y ∈ ps.zip us, scope.names.lookup y.1 = some .local ∨ (scope.names.lookup y.1 = some .cell ∧ ((cellsFrom (s.heap.objs.size + 1) scope.names []).lookup y.1).isSome = true) := by
    rintro ⟨y, u⟩ hy
    exact (S.par y (List.of_mem_zip hy).1).imp id fun q => ⟨q, PySem.W.cellsFrom_some _ _ _ (.inl q)⟩
  refine codeAny_call_function room.depth (kin _ _ look) rfl S.co S.gen rfl (PySem.W.codeRec_of kin code) (bound _ _ _ _ (wpAny_newFunctionEnv_cells S.kind kinds fun env ee s1 y => ?_))
  cases ee
  refine ⟨(e0.mod.nolimit.keeps fun c o e => (e0.bs c o e).1).keeps y.toInCall.keep, codeAny_func ?_⟩
  obtain ⟨t, ht, q⟩ := hb cdv A outer s H vs Q E p want
  refine wpAny_mono (ht.run [] s1 (L2.start N vs) H _ (L2H.inv_startH S pin e0 (len _ _ _ _ want) rel y) q) (fun res s' z => ?_) fun _ _ z => z
  match res, z with
  | .ret u, ⟨v, _, H', J, rv, q⟩ => exact ⟨v, H', J.os, J.bare, J.base, J.hok, rv, q⟩
  | .next, ⟨_, H', J, q⟩ => exact ⟨V.non, H', J.os, J.bare, J.base, J.hok, rfl, q⟩
  | .brk, ⟨_, _, _, q⟩ => exact q.elim
  | .cont, ⟨_, _, _, q⟩ => exact q.elim
theorem fn_oexX {P : Program} {w : World} {K : PySem.W.Frag} {mg : Str → Option Value} {base : Heap} {B newId initId : String} {tl : List Value} {fl xs xx qual : Str} {params : Arguments} {scope : Scope} {kws : List (Str × V)} {fI : Addr} {fd : FuncData} {N : List Str} {k : Nat} {p1 p2 p3 p4 : Pos} (Z : Bas B newId initId tl) (F : FunD K "__init__" qual params [.Assign [.Attribute (.Name xs p1) fl p2] (.Name xx p3) p4] scope [] kws fI fd) (S : FnScope N [xs, xx] scope) (n0 : Nm N scope 0 xs) (n1 : Nm N scope 1 xx) :
    FnX P w K mg base (L2.CX P w) (k + 1) fI fd [xs, xx] (spOexG newId tl K fl) := by
  refine okX F S (fun vs H Q E h => ?_) (fun cdv A outer s H vs Q E p h => ?_)
  · obtain ⟨a, C, v, rfl, _⟩ := h; rfl
  · obtain ⟨a, C, v, rfl, T, hno, ha, q⟩ := h
    exact ⟨_, pss_one (ps_stFirst Z (pe_var (i := 0) n0.at_ (nm_vis n0) n0.dbg n0.cls) (pe_var (i := 1) n1.at_ (nm_vis n1) n1.dbg n1.cls)), v, rfl, .ref a, rfl, a, C, rfl, T, hno, ha, fun dx h1 h2 => q dx h1 h2⟩
/-- an own exception class that can be made where any exception is handled -/
structure ExcAny (P : Program) (w : World) (K : PySem.W.Frag) (mg : Str → Option Value) (base : Heap) (C : Addr) (fl : Str) : Prop where
  hno : PySem.W.findIn K (.ref C) fl = some none
  ex : ∃ B newId initId tl fI fd ps, Bas B newId initId tl ∧ OexG newId tl K C ∧ PySem.W.findIn K (.ref C) "__init__" = some (some (.ref fI)) ∧ PySem.W.typeIn K (.ref fI) = some (.type "function") ∧ Binds K fd ps [] ∧ FnX P w K mg base (L2.CX P w) 1 fI fd ps (spOexG newId tl K fl)
section
variable {X : Cx} {B newId initId : String} {tl : List Value}
/-- C(e, ..) while any exception is handled; a pinned object stands by -/
theorem pmk_gX {e : Expr} {es : List Expr} {ta : TA} {p pos : Pos} {CX : CXT} {x : Str} {C fI : Addr} {k : Nat} {fd : FuncData} {ps : List Str} {sp : Sp} {pn : Addr × Obj} (Z : Bas B newId initId tl) (T : OexG newId tl X.K C)
    (iC : PySem.W.findIn X.K (.ref C) "__init__" = some (some (.ref fI))) (tI : PySem.W.typeIn X.K (.ref fI) = some (.type "function")) (G : FnX X.prog X.w X.K X.mg X.base CX k fI fd ps sp) (hr : L2H.RoomH (k + 1) X.A) (hpn : pn ∈ X.pn) (hb : Binds X.K fd ps []) (hx : Passes CX X (fun _ _ _ => False))
    (hg : Gl X x) (hm : X.mg x = some (.ref C)) (ha : PA X (e :: es) ta) (hdb : (x == ("__debug__" : Str)) = false) (he : starEach (e :: es) X.env = (false, eval e X.env) :: starEach es X.env) (hpl : (backTo pos (starEach es X.env)).any (·.1) = false) :
    L2H.PMk5 X (.Call (.Name x p) (e :: es) [] pos) (tMkO C sp [] ta) := fun pins s σ H Q I h => by
  obtain ⟨nm, q, N, bs, bm, sn, sub, ab, col, dd, k0, k1, k2, k3, k5, look, tail⟩ := T.cls
  refine wpAny_Call_Name_kw (ld_glob I hg hm (PySem.W.callWith_K (h₀ := X.base) I.ok.mod.kin T.kC (thn (ha.run pos pins s σ H _ I h) fun us s1 ⟨vs, H1, I1, r1, hz, q1⟩ => ⟨I1.kIn, ?_⟩) he hpl) hdb)
  obtain ⟨hp, g, dr, tk, os⟩ := s1
  let n := hp.objs.size
  let hp2 := (hp.push (PySem.W.kdv_tup us)).push (PySem.HandSPX.excO C n)
  have nn : n ≤ n + 1 := Nat.le_succ _
  have want := q1 (n + 1) (I1.hok.fresh nn)
  rw [List.append_nil] at want
  have keep : ∀ b o, hp.get? b = some o → hp2.get? b = some o := fun b o z => Heap.get?_push_of_some _ (Heap.get?_push_of_some _ z)
  have there : hp2.get? (n + 1) = some (PySem.HandSPX.excO C n) := by
    show ((hp.push (PySem.W.kdv_tup us)).push (PySem.HandSPX.excO C hp.objs.size)).get? (hp.objs.size + 1) = _
    heap_get
  have I2 : Inv X pins σ (upd H1 (n + 1) (exo (n + 1) C none)) ⟨hp2, g, dr, tk, os⟩ := I1.laid (t' := tk) (a := n + 1) (o := exo (n + 1) C none) (h' := hp2) keep nn (exo_ok there)
  have rr : Vals (V.ref (n + 1) :: vs) (Value.ref (n + 1) :: us) := .cons rfl r1
  have ln : (Value.ref (n + 1) :: us ++ []).length = ps.length := by
    rw [List.append_nil]
    exact (rr.length.symm.trans (G.len _ _ _ _ want) :)
  have small : us.length ≤ sizeLine := by rw [← Paired.length r1, sizeLine_eq]; omega
  have b2 := hb _ (Value.ref (n + 1) :: us) I2.kIn ln
  rw [List.append_nil] at b2
  have P1 := I2.pin pn (List.mem_append_left _ hpn)
  have hpin : L2H.PinOk X.stack (upd H1 (n + 1) (exo (n + 1) C none)) ⟨hp2, g, dr, tk, os⟩ pn :=
    ⟨P1.1, P1.2.1, fun hmm => (List.mem_cons.mp (I2.stkSub pn.1 hmm)).elim P1.2.2.1 P1.2.2.2.1, P1.2.2.2.2⟩
  have go := G.run _ X.stack _ _ ⟨Value.ref (n + 1) :: us, []⟩ _ _ _ (fun _ _ _ => False) pn (hr.make C us []) hpin (I2.env0.make C us []) b2 rr want
  refine wpAny_call (PySem.HandSPX.call_own Z.F (fun Y => PySem.W.excTail_contains Y bm tail) (I1.kIn _ _ look) (PySem.W.looks_findIn I1.kIn iC) (fun self => PySem.W.bind_fn I1.kIn self tI) small (codeAny_mono go fun res s' z => ?_))
  match res, z with
  | .error er, z => exact hx pins σ _ _ er s' I2 z
  | .ok (.ret u), z =>
    obtain ⟨v, H2, os2, bare2, un2, hok2, rv, rfl, d, fs, ea, ed, hd1, q2⟩ := z
    obtain ⟨h2, g2, d2, t2, os'⟩ := s'
    obtain ⟨t0, G2, J, kG, ge, hoe, na⟩ := mk_end0 (d2 := d2) (t2 := t2) I1 nn keep un2 hok2 os2 bare2 ea ed hd1
    refine ⟨rv, ⟨n + 1, _, _, ⟨G2, g2, d2, t2, os'⟩, _, .ref C, some d, rfl, J, kG, ge, hoe, ⟨rfl, rfl, fun vs hv => by cases hv; rfl⟩, rfl, rfl, na, rfl, bare2, raises_own T.exC T.tyC, q2⟩, fun a oe vs ea2 hg2 hd2 => ?_⟩
    cases ea2
    have hg3 : h2.get? (n + 1) = some oe := hg2
    rw [hoe] at hg3
    cases hg3
    cases hd2
    show (4 : Nat) < 6
    decide
end
/-- what is told of the exception that is handled: it is pinned, and so is its context -/
structure HotM (X : Cx) (p : Addr × Obj) (c0 : Value) : Prop where
  hd : X.A.handled = some (.ref p.1)
  mem : p ∈ X.pn
  fl : ∃ v1 : Array Value, p.2.data = .fields v1 ∧ v1[2]? = some c0
  ch : c0 = .none ∨ ∃ q ∈ X.pn, c0 = .ref q.1 ∧ ∃ vq : Array Value, q.2.data = .fields vq ∧ vq[2]? = some .none
/-- raise C(..) from a cause -/
theorem ps_raiseM {X : Cx} {W : WX} {e cex : Expr} {t : L2.St → Hp → XK → Prop} {R : L2.St → Prop} {pos : Pos} {p : Addr × Obj} {c0 cz : Value} (hot : HotM X p c0) (hcz : cz = .none ∨ cz = .ref p.1)
    (hce : ∀ {pins : List (Addr × Obj)} {σ : L2.St} {H : Hp} {sI s1 : Shared} {E : Value → Shared → Prop} {Q' : Value → Shared → Prop}, Inv X pins σ H sI → (∀ b o, sI.heap.get? b = some o → s1.heap.get? b = some o) → R σ → Q' cz s1 → wpAny (model X.prog X.w) X.A (eval cex X.env) Q' E s1)
    (hr : cz = .ref p.1 → Raises X p.2.cls) (tk : (c0 = .none ∧ TakesM X W) ∨ L2.Takes X W) (he : L2H.PMk5 X e t) : PS X (.Raise (some e) (some cex) pos) (fun _ σ H => t σ H fun cls d H' => R σ ∧ W cls d σ H') := by
  refine ⟨fun pins s σ H D I h => ?_⟩
  obtain ⟨hh, hp, ⟨v1, e1, f1⟩, hch⟩ := hot
  show wpAny _ _ (do standAt pos; raiseStmt X.env (some (do let v ← eval e X.env; standAt pos; pure v)) (some (do let v ← eval cex X.env; standAt pos; pure v))) _ _ _
  refine wpAny_bind (wpAny_standAt (raise_fromM (x1 := p.1) hcz (wpAny_bind (wpAny_mono (he pins s σ H _ I h) (fun u s1 hu => wpAny_bind (wpAny_standAt (wpAny_pure ?_))) fun _ _ y => y))))
  obtain ⟨⟨a, oe, vs, sI, H', cls, d, rfl, J, k, hne, ha, hz, hd2, h1, na, os, ag, r, hs, q⟩, h5⟩ := hu
  have P0 := J.pin p (List.mem_append_left _ hp)
  have P1 := P0.1
  have away : ∀ {b : Addr} {o : Obj}, sI.heap.get? b = some o → b ≠ a := fun {b o} z y => by
    subst y
    rw [hne] at z
    cases z
  have k4 : ∀ b u, sI.heap.get? b = some u → (fromH s1.heap a cz).get? b = some u := fun b u z => by
    rw [fromH_ne (Ne.symm (away z))]
    exact k b u z
  have keep : ∀ b u, sI.heap.get? b = some u → ((fromH s1.heap a cz).update a (Obj.mapFields (·.setIfInBounds 2 (.ref p.1)))).get? b = some u := fun b u z => by
    rw [Heap.get?_update_other _ _ (Ne.symm (away z))]
    exact k4 b u z
  obtain ⟨⟨g3, d3⟩, g4, d4⟩ := fromH_at (c := cz) ha hd2
  have n4 := h5 a oe vs rfl ha hd2
  have f12 : (((vs.setIfInBounds 3 cz).setIfInBounds 4 (Value.bool true)).setIfInBounds 2 (Value.ref p.1))[1]? = some Value.none := HotX.set_other (by decide) (HotX.set_other (by decide) (HotX.set_other (by decide) h1))
  have f22 : (((vs.setIfInBounds 3 cz).setIfInBounds 4 (Value.bool true)).setIfInBounds 2 (Value.ref p.1))[2]? = some (Value.ref p.1) := by
    rw [Array.getElem?_setIfInBounds_self_of_lt]
    rw [HotX.set_size, HotX.set_size]; omega
  have hch1 : Chain s1.heap a c0 := by
    rcases hch with rfl | ⟨y, hy, rfl, vq, e2, f2⟩
    · exact .inl rfl
    · have P2 := (J.pin y (List.mem_append_left _ hy)).1
      exact .inr ⟨y.1, y.2, vq, rfl, k _ _ P2, e2, f2, away P2⟩
  have zc : Zc cls d ((fromO oe cz).mapFields (·.setIfInBounds 2 (.ref p.1))) := by
    unfold fromO
    exact ⟨by rw [Obj.cls_mapFields, Obj.cls_mapFields, Obj.cls_mapFields]; exact hz.1, by rw [HandSPX.dict_mapFields, HandSPX.dict_mapFields, HandSPX.dict_mapFields]; exact hz.2.1⟩
  have d5 := Obj.data_mapFields d4 (·.setIfInBounds 2 (.ref p.1))
  have g5 := Heap.get?_update_self (Obj.mapFields (·.setIfInBounds 2 (.ref p.1))) g4 (Obj.isFreed_of_fields d5)
  refine ⟨a, oe, vs, cls, p.2, v1, c0, rfl, ha, hz.1, hd2, h1, n4, away P1, hh, k _ _ P1, e1, f1, hch1, fun Q' q' => wpAny_bind (hce J k hs (wpAny_bind (wpAny_standAt (wpAny_pure q')))),
    (r _ _ (J.kIn.keeps k)).1, fun y => (hr y _ _ (J.kIn.keeps k)).1, (r _ _ (J.kIn.keeps k4)).2, ?_⟩
  rcases tk with ⟨rfl, tk⟩ | tk
  · refine tk _ _ ⟨a, PySem.W.hideAll sI.heap (frs X.stack), sI, pins, σ, H', cls, d, rfl, J, fun b o z hb => PySem.W.hideAll_get _ z hb, Heap.UpToSlots.of_keeps keep, ⟨.ref p.1, .inr ⟨p.1, p.2, v1, rfl, PySem.W.hideAll_get _ P1 fun hm => ?_, P0.2.1, e1, f1⟩, .inl ⟨fun b o z => keep b o (PySem.W.of_hideAll _ z), ?_, ?_, _, _, g5, ⟨zc, fun vs2 e2 => ?_⟩, d5, f12⟩⟩, na, os, ag, q⟩
    · exact (List.mem_cons.mp (J.stkSub p.1 hm)).elim P0.2.2.1 P0.2.2.2.1
    · cases y : (PySem.W.hideAll sI.heap (frs X.stack)).get? a with
      | none => rfl
      | some o =>
        have y2 := PySem.W.of_hideAll _ y
        rw [hne] at y2; cases y2
    · exact Heap.FunFrames.of_keeps (fun b o z _ => ⟨o, keep b o z, rfl⟩) (funFrames_none J.stack fun b hb => PySem.W.hideAll_none _ hb)
    · rw [d5] at e2
      cases e2
      exact f22
  · exact tk _ _ (XE.new J keep hne g5 zc d5 f12 na os ag q)
end PD
/-! PD70: try .. except whose suite raises, for what flies in either way. -/
namespace PD
open PySem PySem.Spec PyProof.Rows L2
section
variable {X : Cx} {pins l pn' : List (Addr × Obj)} {σ : L2.St} {H : Hp} {s : Shared} {a : Addr}
/-- what a pin asks -/
def PinAt (X : Cx) (H : Hp) (s : Shared) (q : Addr × Obj) : Prop := s.heap.get? q.1 = some q.2 ∧ H q.1 = none ∧ q.1 ≠ X.env.locals ∧ q.1 ∉ X.fs ∧ ∀ v, q.2.data ≠ .cell v
theorem suite_pins (I : Inv X pins σ H s) (h : ∀ q ∈ l, PinAt X H s q) : Inv (X.suite a (l ++ (X.pn ++ pins))) [] σ H s :=
  ⟨I.ok.suite _ _, I.os, I.bare, I.base, I.loc, I.cell, I.free, I.freeC, fun q hq => by
    rw [List.append_nil] at hq
    rcases List.mem_append.mp hq with hq | hq
    · exact h q hq
    · exact I.pin q hq, I.hok, I.len⟩
theorem unsuite_pins (I : Inv (X.suite a (l ++ (X.pn ++ pins))) pn' σ H s) (ok : X.Ok) : Inv X pins σ H s :=
  ⟨ok, I.os, I.bare, I.base, I.loc, I.cell, I.free, I.freeC, fun q hq => I.pin q (List.mem_append_left _ (List.mem_append_right _ hq)), I.hok, I.len⟩
theorem unsuite_xe {E : Value → Shared → Prop} (I : Inv (sufX X a (l ++ (X.pn ++ pins)) E) pn' σ H s) (ok : X.Ok) : Inv X pins σ H s :=
  unsuite_pins (show Inv (X.suite a (l ++ (X.pn ++ pins))) pn' σ H s from I.wish fun _ _ => False) ok
/-- the context of an exception, pinned -/
theorem ctx_pins {B : Heap} {c : Value} (kc : KC B H c) (st : B.StaysIn s.heap) (ff : s.heap.FunFrames B (X.env :: X.outer)) (hf : X.env.frame = some X.env.locals) :
    ∃ l : List (Addr × Obj), (∀ q ∈ l, PinAt X H s q) ∧ (c = .none ∨ ∃ q ∈ l, c = .ref q.1 ∧ ∃ vq : Array Value, q.2.data = .fields vq ∧ vq[2]? = some .none) := by
  rcases kc with rfl | ⟨x, o, vs, rfl, g, nh, d, f⟩
  · exact ⟨[], fun _ h => (List.not_mem_nil h).elim, .inl rfl⟩
  · have notin : x ∉ frs (X.env :: X.outer) := fun hm => by
      have := (ff.mem hm).1
      rw [g] at this
      cases this
    refine ⟨[(x, o)], fun q hq => ?_, .inr ⟨(x, o), List.mem_singleton.mpr rfl, rfl, vs, d, f⟩⟩
    rw [List.mem_singleton.mp hq]
    refine ⟨st x o g, nh, fun y => notin (List.mem_filterMap.mpr ⟨X.env, List.mem_cons_self, by rw [hf]; exact congrArg some (show x = X.env.locals from y).symm⟩), fun y => ?_, fun v y => ?_⟩
    · obtain ⟨e, he, w⟩ := List.mem_filterMap.mp y
      exact notin (List.mem_filterMap.mpr ⟨e, List.mem_cons_of_mem _ he, w⟩)
    · have y : o.data = .cell v := y
      rw [d] at y
      cases y
end
/-- what flies in a mode is a case of what flies in the middle one -/
theorem takes_midN {X : Cx} {W : WX} {bm : Md} (hbm : bm ≠ some false) (h : ∀ u s', (∃ (a : Addr) (B : Heap) (sI : Shared) (pins : List (Addr × Obj)) (σ : L2.St) (H : Hp) (cls : Value) (d : Option Addr) (c : Value),
    u = .ref a ∧ Inv X pins σ H sI ∧ (∀ b o, sI.heap.get? b = some o → b ∉ frs X.stack → B.get? b = some o) ∧ sI.heap.UpToSlots s'.heap ∧ KC B H c ∧ (bm = some true → c = .none) ∧ Sky B X.stack a (Zx c cls d) X.env.locals s'.heap ∧ H a = none ∧ s'.os = sI.os ∧ AllBare s'.gens ∧ W cls d σ H) → X.xe u s') : TkB bm X W := by
  match bm, hbm, h with
  | some true, _, h => exact fun u s' ⟨a, B, sI, pins, σ, H, cls, d, e, I, nb, up, sky, r⟩ => h u s' ⟨a, B, sI, pins, σ, H, cls, d, .none, e, I, nb, up, .inl rfl, fun _ => rfl, sky_imp (fun _ z => ⟨z.zc, z.2.2⟩) sky, r⟩
  | some false, n, _ => exact absurd rfl n
  | none, _, h => exact fun u s' ⟨a, B, sI, pins, σ, H, cls, d, e, I, nb, up, ⟨c, kc, sky⟩, r⟩ => h u s' ⟨a, B, sI, pins, σ, H, cls, d, c, e, I, nb, up, kc, (fun y => nomatch y), sky, r⟩
/-- try: body, except x: suite, where the suite may raise -/
theorem ps_try_onlyG {X : Cx} {bm om : Md} {x : Str} {c : Value} {body suite : List Stmt} {b₀ : Stmt} {np pos pos' : Pos} {tb : WX → TS} {ts : Addr → Value → Option Addr → TS} {Wout : WX} (hbm : bm ≠ some false) (hom : om ≠ some true)
    (hs : X.stack = X.env :: X.outer) (hf : X.env.frame = some X.env.locals) (hc : Names X x c) (hpa : ∀ hd : Option Value, PassesOwnAt (model X.prog X.w) (X.A.mark hd) X.A X.env X.xe) (tk : TkB om X Wout)
    (hb : ∀ (W : WX) (pn : List (Addr × Obj)) (xe : Value → Shared → Prop), TkB bm (X.tr pn xe) W → PassesOwn (model X.prog X.w) X.A X.env xe → PSs (X.tr pn xe) body (tb W))
    (hsu : ∀ (a : Addr) (oe : Obj) (cls : Value) (d : Option Addr) (c0 : Value) (pn : List (Addr × Obj)), Zc cls d oe → (bm = some true → c0 = .none) → HotM (L2H.suiteX X a pn) (a, oe) c0 → TkB om (L2H.suiteX X a pn) Wout → PSs (L2H.suiteX X a pn) (b₀ :: suite) (ts a cls d)) :
    PS X (.Try body [.ExceptHandler (some (.Name x np)) none (b₀ :: suite) pos'] [] [] pos) (fun D σ H => tb (L2.wOnly X.K c ts Wout D) D σ H) := by
  refine ⟨fun pins s σ H D I h => ?_⟩
  have okX := I.ok
  have frX : X.A.frames = some (X.env :: X.outer) := by rw [okX.frames, hs]
  refine wpAny_Try_except ?_
  refine wpAny_mono ((hb (L2.wOnly X.K c ts Wout D) (X.pn ++ pins) (fun e s₁ => wpAny (model X.prog X.w) X.A (noteFrame e X.env) (fun _ s₂ => wpAny (model X.prog X.w) X.A (setFlight e none) (fun _ s₃ =>
    wpAny (model X.prog X.w) X.A (handleBy e X.env [.ExceptHandler (some (.Name x np)) none (b₀ :: suite) pos']) (SP X pins D) X.xe s₃) X.xe s₂) X.xe s₁) (takes_midN hbm fun u s' xx => ?_) PassesOwn.looking).run [] s σ H D (I.toTry _) h) (fun f s1 wsp => ?_) (fun e s1 he => he)
  · obtain ⟨a, B, sI, pins', σ', H', cls, d, c0, rfl, J', n0, u0, kc, hc0, sky0, free0, os0, bare0, b, wb, wyes, wno⟩ := xx
    have J : Inv X pins σ' H' sI := J'.ofTry okX
    have skyX : Sky B (X.env :: X.outer) a (Zx c0 cls d) X.env.locals s'.heap := by rw [← hs]; exact sky0
    show wpAny (model X.prog X.w) X.A (noteFrame (.ref a) X.env) _ _ _
    refine L2N.Sky.land Zx.steady frX hf skyX fun ha fla ua => ?_
    have Jl : Inv X pins σ' H' { s' with heap := ha } := J.landed n0 fla.1 (u0.trans ua) os0 bare0
    obtain ⟨oa, va, ga, za, da⟩ := fla.there
    have outer1 : a ∉ frs (X.env :: X.outer) := fun hm => by
      obtain ⟨_, o2, e2, nofld⟩ := fla.2.2.1.mem hm
      rw [ga] at e2
      cases e2
      exact nofld _ da
    have notL : a ≠ X.env.locals := fun z => outer1 (List.mem_filterMap.mpr ⟨X.env, List.mem_cons_self, by rw [hf, z]⟩)
    have notF : a ∉ X.fs := fun hm => by
      obtain ⟨e, he, q⟩ := List.mem_filterMap.mp hm
      exact outer1 (List.mem_filterMap.mpr ⟨e, List.mem_cons_of_mem _ he, q⟩)
    have Sa := Jl.suite ga da free0 notL notF
    refine wpAny_handleBy_cons (codeAny_handlers_test ?_) (by intro q; cases q)
    have Lty : PySem.W.Looks (model X.prog X.w) ha (typeOf (.ref a)) cls := fun A Q E s k q => wpAny_typeOf_ref (k _ _ ga) (by rw [za.1.1]; exact q)
    have Lmt := PySem.W.exm_one (M := model X.prog X.w) (Jl.kIn) Lty wb
    have named : ∀ {Q : Value → Shared → Prop} {E : Value → Shared → Prop}, Q c { s' with heap := ha } → wpAny (model X.prog X.w) (X.A.mark (some (.ref a))) (eval (.Name x np) X.env) Q E { s' with heap := ha } := fun {Q E} q => by
      obtain ⟨hg, hdbg, hm | ⟨hm, hv, hnn⟩⟩ := hc
      · exact ld_glob (X := X.suite a ((a, oa) :: (X.pn ++ pins))) Sa hg hm q hdbg
      · exact ld_blt (X := X.suite a ((a, oa) :: (X.pn ++ pins))) Sa hg hm hv q hnn hdbg
    refine named (Lmt.here ?_)
    cases b with
    | true =>
      refine codeAny_handlers_suite ?_
      refine HandSPX.lands_againZ fla fun hh flb ub => ?_
      have Jn : Inv X pins σ' H' { s' with heap := hh } := J.landed n0 flb.1 ((u0.trans ua).trans ub) os0 bare0
      obtain ⟨ob, vb, gb, zb, db⟩ := flb.there
      obtain ⟨l, lp, lc⟩ := ctx_pins (X := X) (s := { s' with heap := hh }) kc flb.1 flb.2.2.1 hf
      have pinA : PinAt X H' { s' with heap := hh } (a, ob) := ⟨gb, free0, notL, notF, fun v z => by have z : ob.data = .cell v := z; rw [db] at z; cases z⟩
      have Sb : Inv (X.suite a (((a, ob) :: l) ++ (X.pn ++ pins))) [] σ' H' { s' with heap := hh } := suite_pins Jn fun q hq => (List.mem_cons.mp hq).elim (fun e => e ▸ pinA) (lp q)
      have hot : HotM (L2H.suiteX X a (((a, ob) :: l) ++ (X.pn ++ pins))) (a, ob) c0 := ⟨rfl, List.mem_cons_self, ⟨vb, db, zb.2 vb db⟩, lc.imp id fun ⟨q, hq, r⟩ => ⟨q, List.mem_append_left _ (List.mem_cons_of_mem _ hq), r⟩⟩
      have tkS : TkB om (L2H.suiteX X a (((a, ob) :: l) ++ (X.pn ++ pins))) Wout := by
        match om, hom, tk with
        | some true, n, _ => exact absurd rfl n
        | some false, _, tk => exact fun u2 s2 ⟨a2, B2, sI2, pn2, σ2, H2, cls2, d2, e2, I2, r⟩ => tk u2 s2 ⟨a2, B2, sI2, pins, σ2, H2, cls2, d2, e2, unsuite_xe (E := X.xe) I2 okX, r⟩
        | none, _, tk => exact fun u2 s2 ⟨a2, B2, sI2, pn2, σ2, H2, cls2, d2, e2, I2, r⟩ => tk u2 s2 ⟨a2, B2, sI2, pins, σ2, H2, cls2, d2, e2, unsuite_xe (E := X.xe) I2 okX, r⟩
      refine wpAny_mono ((hsu a ob cls d c0 _ zb.1 hc0 hot tkS).run [] _ _ H' _ (L2H.suiteX_of Sb) (wyes rfl a free0)) (fun f sd wsp => ?_) (fun ed sd z => hpa (some (.ref a)) ed sd z)
      cases f with
      | next =>
        obtain ⟨σd, Hd, Sd, qd⟩ := wsp
        exact ⟨_, _, unsuite_xe (E := X.xe) Sd okX, qd⟩
      | brk =>
        obtain ⟨σd, Hd, Sd, qd⟩ := wsp
        exact ⟨_, _, unsuite_xe (E := X.xe) Sd okX, qd⟩
      | cont =>
        obtain ⟨σd, Hd, Sd, qd⟩ := wsp
        exact ⟨_, _, unsuite_xe (E := X.xe) Sd okX, qd⟩
      | ret u =>
        obtain ⟨vd, σd, Hd, Sd, rd, qd⟩ := wsp
        exact ⟨_, _, _, unsuite_xe (E := X.xe) Sd okX, rd, qd⟩
    | false =>
      show wpAny _ X.A (handleBy (.ref a) X.env []) _ _ _
      refine wpAny_handleBy_nil ?_
      obtain ⟨y1, y2, y3, oe, vs, T, tO, tvs, he, hz, hd, h1, yr⟩ := id fla
      unfold PySem.passOn
      refine wpAny_bind (wpAny_field he hd h1 ?_)
      rw [if_neg (show ¬ ((Value.ref T == Value.none) = true) from by simp)]
      have flyOn : wpAny (model X.prog X.w) X.A (setFlight (.ref a) X.env.frame) (fun _ s4 => wpAny (model X.prog X.w) X.A (throw (.ref a) : Sem Flow) (SP X pins D) X.xe s4) X.xe { s' with heap := ha } := by
        rw [hf]
        refine HandSPX.setFlight_upZ fla fun hh held4 ub => wpAny_throw (tk.m hom _ _ ?_)
        exact ⟨a, B, sI, pins, σ', H', cls, d, rfl, J, n0, (u0.trans ua).trans ub, ⟨c0, kc, .inr (.inr (by rw [hs]; exact held4))⟩, free0, os0, bare0, wno rfl⟩
      first
        | exact wpAny_bind (wpAny_pure (wpAny_bind flyOn))
        | exact wpAny_bind flyOn
  · cases f with
    | next =>
      obtain ⟨σ', H', J', q⟩ := wsp
      exact wpAny_execs_nil ⟨σ', H', J'.ofTry okX, q⟩
    | brk =>
      obtain ⟨σ', H', J', q⟩ := wsp
      exact ⟨σ', H', J'.ofTry okX, q⟩
    | cont =>
      obtain ⟨σ', H', J', q⟩ := wsp
      exact ⟨σ', H', J'.ofTry okX, q⟩
    | ret u =>
      obtain ⟨v, σ', H', J', r, q⟩ := wsp
      exact ⟨v, σ', H', J'.ofTry okX, r, q⟩
end PD
/-! PD71: the same with a name. -/
namespace PD
open PySem PySem.Spec PyProof.Rows L2
end PD
/-! PD72: try .. except X: raise C(e) from None, and with a name, by modes. -/
namespace PD
open PySem PySem.Spec PyProof.Rows L2
/-- a judgement in all contexts of a try's body, in a mode -/
def inTrM (Γ : Ct) (bm : Md) (W' : XD) (J : Ct → Prop) : Prop := ∀ (F : Hp) (μ : Mu) (H : Hp) (pn : List (Addr × Obj)) (xe : Value → Shared → Prop) (tk : TkB bm (Γ.X.tr pn xe) (WofD Γ.X.K F μ H W')) (po : PassesOwn (model Γ.X.prog Γ.X.w) Γ.X.A Γ.X.env xe), J ⟨Γ.X.tr pn xe, F, μ, H, W', bm, tk, po⟩
/-- the argument of an exception: by a name, or a number -/
inductive Arg (Γ : Ct) (i : Nat) : Expr → (Dl → D → Prop) → Prop where
  | nm {j : Nat} {z : Str} {zp : Pos} (hj : Γ.X.N[j]? = some z) (hv : Vis Γ.X.env.scope z) (hij : j ≠ i) (hd : (z == ("__debug__" : Str)) = false) (hc : (z == ("__classdict__" : Str)) = false) : Arg Γ i (.Name z zp) fun δ d => δ[j]? = some (some d)
  | int (n : Int) (k : Nat) (p : Pos) : Arg Γ i (.Constant (.int n) k p) fun _ d => d = .int n
theorem Arg.run {Γ : Ct} {i : Nat} {ae : Expr} {ad : Dl → D → Prop} (A : Arg Γ i ae ad) {X' : Cx} (hN : X'.N = Γ.X.N) (hE : X'.env = Γ.X.env) (he : starEach [ae] X'.env = (false, eval ae X'.env) :: starEach [] X'.env) :
    ∃ ta : TA, PA X' [ae] ta ∧ ∀ {K : PySem.W.Frag} {F : Hp} {δ : Dl} {σ : L2.St} {d : D}, Fr K F σ δ → ad δ d → ∃ v, Dp K F d v ∧ ∀ σ2 : L2.St, (∀ k, k ≠ i → σ2[k]? = σ[k]?) → ∀ (H : Hp) (Q : List V → Hp → Prop), Q [v] H → ta σ2 H Q := by
  cases A with
  | nm hj hv hij hd hc =>
    refine ⟨_, pa_cons (pe_var (by rw [hN]; exact hj) (by rw [hE]; exact hv) hd hc) pa_nil he, fun {K F δ σ d} fr had => ?_⟩
    obtain ⟨v, h1, h2⟩ := fr.2 _ d had
    exact ⟨v, h2, fun σ2 hs H Q q => ⟨v, (hs _ hij).trans h1, q⟩⟩
  | int n k p =>
    refine ⟨_, pa_cons pe_int pa_nil he, fun {K F δ σ d} fr had => ?_⟩
    subst had
    exact ⟨.int n, by rw [Dp], fun σ2 hs H Q q => q⟩
section
variable {Γ : Ct} {δ : Dl} {μ : Mu} {E : En} {x y n fl : Str} {c : Value} {C : Addr} {ae : Expr} {ad : Dl → D → Prop} {i j jc k : Nat} {bm : Md} {body : List Stmt} {np np2 pos pos' p p2 cpos rpos : Pos}
/-- what is wished of an exception of the body -/
def WasU (Γ : Ct) (c : Value) (C : Addr) (fl : Str) (ad : Dl → D → Prop) : XD := fun cls ns xs δ' μ' => ∃ b, PySem.W.exmOne Γ.X.K cls c = some b ∧
  (b = true → ∃ d, ad δ' d ∧ Γ.W (.ref C) [fl] [d] δ' μ') ∧ (b = false → Γ.W cls ns xs δ' μ')
theorem sd_try_fromG (hbm : bm ≠ some false) (hom : Γ.nn = some false ∨ (Γ.nn = none ∧ bm = some true)) (hs : Γ.X.stack = Γ.X.env :: Γ.X.outer) (hf : Γ.X.env.frame = some Γ.X.env.locals) (ho : OutOf Γ.X) (hc : Names Γ.X x c) (M : ExcAny Γ.X.prog Γ.X.w Γ.X.K Γ.X.mg Γ.X.base C fl) (hr : Room j Γ.X.A) (hj : 2 ≤ j) (hm : Γ.X.mg y = some (.ref C))
    (A : Arg Γ Γ.X.N.length ae ad) (h : inTrM Γ bm (WasU Γ c C fl ad) fun Γ' => sds Γ' body δ μ E) (hg : Gl Γ.X y := by rfl) (hdb : (y == ("__debug__" : Str)) = false := by decide +kernel)
    (he : starEach [ae] Γ.X.env = (false, eval ae Γ.X.env) :: starEach [] Γ.X.env := by rfl) (hpl : (backTo p2 (starEach [] Γ.X.env)).any (·.1) = false := by rfl) :
    sd Γ (.Try body [.ExceptHandler (some (.Name x np)) none [.Raise (some (.Call (.Name y p) [ae] [] p2)) (some (.Constant .none jc cpos)) rpos] pos'] [] [] pos) δ μ E := fun F σ H a => by
  let st : Stmt := .Raise (some (.Call (.Name y p) [ae] [] p2)) (some (.Constant .none jc cpos)) rpos
  let W0 : WX := WofD Γ.X.K Γ.F0 Γ.μ0 Γ.H0 Γ.W
  let tb : WX → TS := fun W D σ H => ∀ (pn : List (Addr × Obj)) (xe : Value → Shared → Prop), TkB bm (Γ.X.tr pn xe) W → PassesOwn (model Γ.X.prog Γ.X.w) Γ.X.A Γ.X.env xe → wss (Γ.X.tr pn xe) body D σ H
  let ts : Addr → Value → Option Addr → TS := fun a cls d D σ H => ∀ (oe : Obj) (c0 : Value) (pn : List (Addr × Obj)), (bm = some true → c0 = .none) → HotM (L2H.suiteX Γ.X a pn) (a, oe) c0 → TkB Γ.nn (L2H.suiteX Γ.X a pn) W0 → wss (L2H.suiteX Γ.X a pn) [st] D σ H
  have hom2 : Γ.nn ≠ some true := by
    rcases hom with h | ⟨h, _⟩ <;> rw [h] <;> exact fun z => nomatch z
  refine ws_of (ps_try_onlyG (tb := tb) (ts := ts) (c := c) (Wout := W0) hbm hom2 hs hf hc ho.at_ Γ.tk (fun W pn xe tk po => ⟨fun pins s σ H D I z => z pn xe tk po pins s I⟩) (fun a' oe cls d c0 pn hz h0 hot tks => ⟨fun pins s σ H D I z => z oe c0 pn h0 hot tks pins s I⟩)) ?_
  intro pn xe tk po
  have tk' : TkB bm (Γ.X.tr pn xe) (WofD Γ.X.K F μ H (WasU Γ c C fl ad)) := TkB.imp tk fun cls d σ' H' w => by
    obtain ⟨F', μ', δ', ns, xs, st', sx, fr, xo, b, hb, h1, h2⟩ := w
    refine ⟨b, hb, fun eb a' ha' oe c0 pn' h0 hot tks => ?_, fun eb => ⟨F', μ', δ', ns, xs, a.st.trans st', sx, fr, xo, h2 eb⟩⟩
    obtain ⟨d1, hd1, q⟩ := h1 eb
    obtain ⟨B, newId, initId, tl, fI, fd, ps, Z, T, i1, i2, bd, G⟩ := M.ex
    obtain ⟨ta, hta, hta2⟩ := A.run (X' := L2H.suiteX Γ.X a' pn') rfl rfl he
    obtain ⟨v, rv, go⟩ := hta2 fr hd1
    have tkc : (c0 = .none ∧ TakesM (L2H.suiteX Γ.X a' pn') W0) ∨ L2.Takes (L2H.suiteX Γ.X a' pn') W0 := by
      rcases hom with hn | ⟨hn, hb2⟩
      · exact .inr (tks.all hn)
      · exact .inl ⟨h0 hb2, tks.m hom2⟩
    refine wss_of (pss_one (ps_raiseM (R := fun _ => True) hot (.inl rfl) (fun {_ _ _ _ _ _ _} _ _ _ q => Constant_none q) (fun z => nomatch z) tkc (pmk_gX Z T i1 i2 G ((L2H.roomH_mark (hr.mono hj).r (some (.ref a')))) hot.mem bd pass_none hg hm hta hdb he hpl))) ?_
    refine go σ' (fun _ _ => rfl) _ _ ?_
    refine ⟨by simp, fun a2 ha2 => ⟨a2, C, v, rfl, T, M.hno, upd_same, fun dx hdx hne => ⟨rfl, dx, [(fl, v)], upd_same, ?_, ?_, ?_⟩⟩⟩
    · rw [upd_ne hne, upd_same]
    · rw [upd_ne hne] at hdx; exact hdx
    · rw [upd_ne hne] at hdx
      rw [upd_del ha2 hne]
      have a1 : At Γ F' δ' μ' σ' H' := ⟨a.st.trans st', sx, fr⟩
      have a3 := a1.pers (.xd [(fl, v)]) hdx
      exact ⟨trivial, upd F' dx (.xd [(fl, v)]), μ', δ', [fl], [d1], a3.st, a3.sx, a3.fr, .inr ⟨dx, [(fl, v)], rfl, upd_same, rfl, Dps.cons (rv.mono (same_upd (a1.sx.sub.free hdx))) Dps.nil⟩, q⟩
  have w := h F μ H pn xe tk' po F σ H ⟨Step.refl _ _ _, a.sx, a.fr⟩
  have up : ∀ {Q : Dl → Mu → Prop} {σ2 H2}, PostN ⟨Γ.X.tr pn xe, F, μ, H, WasU Γ c C fl ad, bm, tk', po⟩ F Q σ2 H2 → PostN Γ F Q σ2 H2 := fun {Q σ2 H2} w => by
    obtain ⟨F2, δ2, μ2, s2, a2, q⟩ := w
    exact ⟨F2, δ2, μ2, s2, ⟨a.st.trans a2.st, a2.sx, a2.fr⟩, q⟩
  refine wss_mono w ⟨fun σ2 H2 q => up q, fun v H2 q => ?_, fun σ2 H2 q => up q, fun σ2 H2 q => up q⟩
  obtain ⟨F2, d2, μ2, s2, st2, sx2, rd, q⟩ := q
  exact ⟨F2, d2, μ2, s2, a.st.trans st2, sx2, rd, q⟩
end
end PD
/-! PD73: int of a bool. -/
namespace PD
open PySem PySem.Spec PyProof.Rows L2
end PD
/-! PD74: defs that let out what has a context that has none. -/
namespace PD
open PySem PySem.Spec PyProof.Rows L2
/-- a def that may let out what has a context that has none, or anything -/
structure CallM (P : Program) (w : World) (K : PySem.W.Frag) (mg : Str → Option Value) (base : Heap) (k : Nat) (f : Addr) (n : Nat) (dds : List D) (sp : SpD) : Prop where
  x : ∀ b : Md, b ≠ some true → CallX b P w K mg base k f n dds sp
theorem CallM.at_ {P : Program} {w : World} {K : PySem.W.Frag} {mg : Str → Option Value} {base : Heap} {k : Nat} {f : Addr} {n : Nat} {dds : List D} {sp : SpD} (c : CallM P w K mg base k f n dds sp) (b : Md) (h : b ≠ some true := by first | decide | (show (none : Md) ≠ some true; decide) | (show (some false : Md) ≠ some true; decide)) : CallX b P w K mg base k f n dds sp := c.x b h
theorem CallM.mk0 {P : Program} {w : World} {base : Heap} {K : PySem.W.Frag} {mg : Str → Option Value} {k : Nat} {f : Addr} {sp : SpD} {x qual : Str} {params : Arguments} {body : List Stmt} {scope : Scope} {kws : List (Str × V)} {fd : FuncData} {ps : List Str} (F : FunD K x qual params body scope [] kws f fd)
    (h : ∀ (kV doc pm : Value) (an : Option Addr) (cdv ct : Value) (us : List Value), us.length = ps.length → bindArgs (PySem.W.fnOf x qual params body scope .none kV doc pm an cdv ct) ⟨us, []⟩ = pure (ps.zip us)) (G : ∀ b : Md, b ≠ some true → FnD b P w K mg base k f fd ps sp) : CallM P w K mg base k f ps.length [] sp :=
  ⟨fun b hb => ⟨⟨fd, ps, [], [], rfl, F.bindsN h, .nil, DfD.nil, G b hb⟩, F.kp⟩⟩
end PD
/-! PD75: x.upper(). -/
namespace PD
open PySem PySem.Spec PyProof.Rows L2
end PD
/-! PD76: an exception that goes out of a list comprehension (below the data): the block's context with a wish of its own, what the block hands on to the def. -/
namespace PD
open PySem PySem.Spec PyProof.Rows L2
/-- what a block leaves: its value, or an exception that goes on in the def's frame -/
def BlkEnd (M : Model) (A : Around) (E : Value → Shared → Prop) (use : Option (Value → Sem Unit)) (Q : Value → Shared → Prop) (acc : Value) (ce : Env) : Result → Shared → Prop
  | .ok f, s' => compPost M A E use Q acc ce.locals (.ok f) s'
  | .error x, s' => ∃ m, s'.heap.Ns ce.locals m ∧ ∀ h', Heap.SameBut ce.locals s'.heap h' → wpAny M A (passOn "comprehension.variables-let-go" x ce : Sem Value) (fun _ _ => False) E { s' with heap := h' }
theorem wpAny_compBlk {M : Model} {A : Around} {E : Value → Shared → Prop} {s : Shared} {env : Env} {e : Expr} {scope : Scope} {pos : Pos} {newAcc first : Sem Value} {g : Comprehension} {gs : List Comprehension} {cl : List (Str × Addr)} {use : Option (Value → Sem Unit)}
    {Q : Value → Shared → Prop} (hcl : clausesOf e = g :: gs) (hs : ∀ x, foldedSetIterable g.iter env x = pure x) (hclos : closureFor scope env = pure cl) (hkind : scope.kind = .function) (hnames : ∀ x ∈ scope.names, x.2 = .local → scope.names.lookup x.1 = some .local)
    (h : wpAny M A first (fun x s₁ => wpAny M A (pyIter x) (fun it s₂ => wpAny M A newAcc (fun acc s₃ =>
      wpAny M A (newFunctionEnv scope env.globals cl [] env.qual none .none (some env)) (fun cenv s₄ =>
        codeAny M A (.compStart e 0 it acc { cenv with scope := relabel scope env }) (BlkEnd M A E use Q acc { cenv with scope := relabel scope env }) s₄) E s₃) E s₂) E s₁) E s) :
    wpAny M A (comprehension e scope env pos newAcc false first use) Q E s := by
  unfold comprehension
  rw [hclos, hcl]
  refine wpAny_bind (wpAny_mono h (fun x s₁ h₁ => wpAny_bind (wpAny_standAt (wpAny_bind (wpAny_of_eq (hs x) (wpAny_bind (wpAny_holding (wpAny_mono h₁ (fun it s₂ h₂ =>
    wpAny_standIf (wpAny_bind (wpAny_mono h₂ (fun acc s₃ h₃ => wpAny_bind (wpAny_pure (wpAny_bind (wpAny_mono h₃ (fun ce s₄ h₄ => ?_) fun _ _ y => y)))) fun _ _ y => y)))
      fun _ _ y => y))))))) fun _ _ y => y)
  dsimp only
  have own : ∀ x ∈ (scope.names.filter fun x => (x.2 == .local || x.2 == .cell) && x.1 != (".0" : Str)).reverse, x.2 = .local → Env.kindOf { ce with scope := relabel scope env } x.1 = some .local :=
    fun x hx hl => lookup_relabel_local (hnames x (List.mem_filter.mp (List.mem_reverse.mp hx)).1 hl)
  have own' : ∀ x ∈ (scope.names.filter fun x => (x.2 == .local || x.2 == .cell) && x.1 != (".0" : Str)).reverse.drop 1 ++ (scope.names.filter fun x => (x.2 == .local || x.2 == .cell) && x.1 != (".0" : Str)).reverse.take 1,
      x.2 = .local → Env.kindOf { ce with scope := relabel scope env } x.1 = some .local := fun x hx hl =>
    (List.mem_append.mp hx).elim (fun y => own x (List.mem_of_mem_drop y) hl) fun y => own x (List.mem_of_mem_take y) hl
  refine wpAny_holding (wpAny_bind (wpAny_attempt (wpAny_holding (wpAny_run (codeAny_mono h₄ fun r s' hr => ?_)))))
  match r, use, hr with
  | .error x, _, ⟨m, hn, go⟩ =>
    exact wpAny_bind (wpAny_holding (wpAny_comp_letGo (cenv := { ce with scope := relabel scope env }) hkind _ s' m own hn fun h' m' _ sb => wpAny_mono (go h' sb) (fun _ _ f => f.elim) fun _ _ y => y))
  | .ok _, none, ⟨m, hn, go⟩ =>
    exact wpAny_bind (wpAny_holding (wpAny_comp_letGo (cenv := { ce with scope := relabel scope env }) hkind _ s' m own hn fun h' m' _ sb => wpAny_pure (go h' sb)))
  | .ok _, some u, hr =>
    refine wpAny_bind (wpAny_rule (wpAny_bind (wpAny_holding (wpAny_mono hr (fun _ s2 q => ?_) fun _ _ y => y))))
    obtain ⟨m, hn, go⟩ := q
    exact wpAny_bind (wpAny_comp_letGo (cenv := { ce with scope := relabel scope env }) hkind _ s2 m own' hn fun h' m' _ sb => wpAny_pure (go h' sb))
/-! ### the heap without one thing -/
theorem frames_less {h h' B B' : Heap} {C : Addr} (k : ∀ b, b ≠ C → h'.get? b = h.get? b) (kB : ∀ b o, B'.get? b = some o → B.get? b = some o) : ∀ {l : List Env}, C ∉ frs l → h.FunFrames B l → h'.FunFrames B' l
  | [], _, _ => trivial
  | env :: r, hn, ⟨hk, ⟨L, o, hf, h0, ho, hd⟩, hr⟩ => by
    have e : frs (env :: r) = L :: frs r := by unfold frs; rw [List.filterMap_cons, hf]
    rw [e] at hn
    have n1 : L ≠ C := fun z => hn (by rw [z]; exact List.mem_cons_self)
    refine ⟨hk, ⟨L, o, hf, ?_, (k L n1).trans ho, hd⟩, frames_less k kB (fun z => hn (List.mem_cons_of_mem _ z)) hr⟩
    cases q : B'.get? L with
    | none => rfl
    | some u => rw [kB L u q] at h0; cases h0
/-- noted by another frame's hand: as if it flew -/
theorem looks_fromZ {M : Model} {A : Around} {E : Value → Shared → Prop} {s : Shared} {Z : Obj → Prop} {base : Heap} {env : Env} {outer : List Env} {L e : Addr} {fl : Value} {Q : Unit → Shared → Prop} (hZ : PXN.Steady1 Z) (hfr : A.frames = some (env :: outer)) (hf : env.frame = some L)
    (hkb : base.StaysIn s.heap) (hen : base.get? e = none) (hl : s.heap.FunFrames base (env :: outer)) (ht : HandSPX.TracedZ s.heap base e Z fl) (hne : (fl == rawInt L) = false)
    (hQ : ∀ h', HandSPX.HeldZ base (env :: outer) e Z L h' → s.heap.UpToSlots h' → Q () { s with heap := h' }) : wpAny M A (noteFrame (.ref e) env) Q E s := by
  obtain ⟨oe, vs, T, oT, ts, he, hz, hd, h1, hnT, hTe, hT, hdT, h3⟩ := ht
  have oth : ∀ b, b ≠ T → (s.heap.update T (Obj.mapFields (·.setIfInBounds 3 Value.none))).get? b = s.heap.get? b := fun b hb => Heap.get?_update_other _ _ (Ne.symm hb)
  have nrec : ∀ b o, s.heap.get? b = some o → (∀ vs, o.data ≠ .fields vs) → b ≠ T := fun b o hb hnf q => by
    rw [q, hT] at hb; injection hb with hb; subst hb; exact hnf ts hdT
  unfold noteFrame
  simp only [hf]
  refine wpAny_bind (wpAny_field he hd h1 ?_)
  rw [if_pos (show (Value.ref T != Value.none) = true from by simp)]
  refine wpAny_bind (wpAny_field hT hdT h3 ?_)
  rw [if_neg (show ¬ ((fl == rawInt L) = true) from by rw [hne]; exact Bool.false_ne_true)]
  refine wpAny_bind (wpAny_setField hT hdT (Array.getElem?_eq_some_iff.mp h3).1 ?_)
  refine PXN.wpAny_entryZ hZ hfr (hl.of_keeps fun b o hb hnf => ⟨o, (oth b (nrec b o hb hnf)).trans hb, rfl⟩) hf ((oth e (Ne.symm hTe)).trans he)
    (fun b o hbo => (oth b fun q => by rw [q, hnT] at hbo; cases hbo).trans (hkb b o hbo)) hen hd (Array.getElem?_eq_some_iff.mp h1).1 hz fun h' hN => ?_
  obtain ⟨x1, x2, x3, x4⟩ := hN
  exact hQ h' ⟨x1, hen, x2, x3⟩ fun b o hb hnf => x4 b o ((oth b (nrec b o hb hnf)).trans hb) hnf
/-! ### the exception goes out of the block -/
theorem blk_out {X : Cx} {pins pins' : List (Addr × Obj)} {σ σ' : L2.St} {H3 H' : Hp} {s3 sI s' : Shared} {scope : Scope} {fp : List Addr} {ce : Env} {E : Value → Shared → Prop} {a : Addr} {B : Heap} {Z : Obj → Prop} {use : Option (Value → Sem Unit)} {Qf : Value → Shared → Prop} {acc : Value}
    (I3 : Inv X pins σ H3 s3) (hst : X.stack = X.env :: X.outer) (hfr : X.env.frame = some X.env.locals) (cL : ce.locals = s3.heap.objs.size) (cF : ce.frame = X.env.frame) (f3 : ∀ b ∈ fp, FpOk X pins H3 b)
    (hZ : PXN.Steady1 Z) (Ib : Inv ((X.blk s3 H3 scope ce fp).wish E) pins' σ' H' sI) (nb : ∀ b o, sI.heap.get? b = some o → b ∉ frs X.stack → B.get? b = some o) (up : sI.heap.UpToSlots s'.heap)
    (sky : Sky B X.stack a Z ce.locals s'.heap) (na : H' a = none) (os : s'.os = sI.os) (ag : AllBare s'.gens)
    (k : ∀ (B2 : Heap) (sI2 s2 : Shared), Inv X pins σ H' sI2 → (∀ b o, sI2.heap.get? b = some o → b ∉ frs X.stack → B2.get? b = some o) → sI2.heap.UpToSlots s2.heap → HandSPX.HeldZ B2 X.stack a Z X.env.locals s2.heap → s2.os = sI2.os → AllBare s2.gens →
      (∀ x o vs, B.get? x = some o → o.data = .fields vs → B2.get? x = some o) → X.xe (.ref a) s2) :
    notedBy (model X.prog X.w) X.A ce (fun e s2 => BlkEnd (model X.prog X.w) X.A X.xe use Qf acc ce (.error e) s2) (.ref a) s' := by
  have frA : X.A.frames = some (X.env :: X.outer) := by rw [I3.ok.frames, hst]
  have en : noteFrame (.ref a) ce = noteFrame (.ref a) X.env := by unfold noteFrame PySem.frameOf; simp only [cF]
  have cne : ce.locals ≠ X.env.locals := by rw [cL]; exact Nat.ne_of_gt I3.lt
  have fC : FpOk X pins H' s3.heap.objs.size := I3.fpOk (Nat.le_refl _) (by rw [← cL]; exact Ib.free)
  have cst : ce.locals ∉ frs X.stack := fun z => by
    rcases List.mem_cons.mp (I3.stkSub _ z) with y | y
    · exact cne y
    · rw [cL] at y; exact fC.2.2.1 y
  -- the def's own context, at the state without the exception
  have I7 : Inv X pins σ H' sI := I3.call' (ch := fp) Ib.os Ib.base Ib.hok Ib.bare fun b hb => ⟨(f3 b hb).2.2.2.1, (f3 b hb).2.1, (f3 b hb).2.2.2.2.1, (f3 b hb).2.2.2.2.2⟩
  obtain ⟨G, g1, g2⟩ := restrict sI.heap fun b => decide (b ≠ ce.locals)
  obtain ⟨B2, b1, b2⟩ := restrict B fun b => decide (b ≠ ce.locals)
  have G1 : ∀ b, b ≠ ce.locals → G.get? b = sI.heap.get? b := fun b hb => g1 b (by simp [hb])
  have B1 : ∀ b, b ≠ ce.locals → B2.get? b = B.get? b := fun b hb => b1 b (by simp [hb])
  have Gn : ∀ b o, G.get? b = some o → b ≠ ce.locals := fun b o z e => by rw [g2 b (by simp [e])] at z; cases z
  have Bn : ∀ b o, B2.get? b = some o → b ≠ ce.locals := fun b o z e => by rw [b2 b (by simp [e])] at z; cases z
  have Bs : ∀ b o, B2.get? b = some o → B.get? b = some o := fun b o z => by rw [← B1 b (Bn b o z)]; exact z
  have I8 : Inv X pins σ H' { sI with heap := G, toks := sI.toks } := by
    obtain ⟨f0, f1, f2, f3', f4, f5⟩ := fC
    rw [← cL] at f0 f1 f3' f4 f5
    exact I7.turned (t' := sI.toks) (fun b o hb e => (G1 b hb).trans e) f0 f1 f3' f4 f5
  obtain ⟨m, hn, _⟩ := id Ib.loc
  have hn : sI.heap.Ns ce.locals m := hn
  have fin : ∀ h1, HandSPX.HeldZ B (X.env :: X.outer) a Z X.env.locals h1 → s'.heap.UpToSlots h1 → BlkEnd (model X.prog X.w) X.A X.xe use Qf acc ce (.error (.ref a)) { s' with heap := h1 } := fun h1 hh up1 => by
    obtain ⟨y1, y2, y3, oe, vs, T, oT, ts, he, hz, hd, hv, hnT, hTe, hT, hdT, h3⟩ := hh
    have hn1 : h1.Ns ce.locals m := (up.trans up1).ns hn
    refine ⟨m, hn1, fun h2 sb => ?_⟩
    obtain ⟨oc, es, ep, hoc, hdc, _⟩ := hn1
    have nf : ∀ b o ws, h1.get? b = some o → o.data = .fields ws → b ≠ ce.locals := fun b o ws z q e => by
      rw [e, hoc] at z; cases z
      rw [hdc] at q; cases q
    have k2 : ∀ b, b ≠ ce.locals → h2.get? b = h1.get? b := sb.2
    have he2 : h2.get? a = some oe := (k2 a (nf a oe vs he hd)).trans he
    have hT2 : h2.get? T = some oT := (k2 T (nf T oT ts hT hdT)).trans hT
    have hnT2 : B2.get? T = none := by
      cases q : B2.get? T with
      | none => rfl
      | some u => rw [Bs T u q] at hnT; cases hnT
    have stay2 : B2.StaysIn h2 := fun b o z => (k2 b (Bn b o z)).trans (y1 b o (Bs b o z))
    have fr2 : h2.FunFrames B2 X.stack := by
      rw [hst] at cst ⊢
      exact frames_less k2 Bs cst y3
    have ht2 : HandSPX.TracedZ h2 B2 a Z (rawInt X.env.locals) := ⟨oe, vs, T, oT, ts, he2, hz, hd, hv, hnT2, hTe, hT2, hdT, h3⟩
    unfold PySem.passOn
    refine wpAny_bind (wpAny_field he2 hd hv ?_)
    rw [if_neg (show ¬ ((Value.ref T == Value.none) = true) from by simp)]
    have go : wpAny (model X.prog X.w) X.A (setFlight (.ref a) ce.frame) (fun _ s4 => wpAny (model X.prog X.w) X.A (throw (.ref a) : Sem Value) (fun _ _ => False) X.xe s4) X.xe { s' with heap := h2 } := by
      rw [cF, hfr]
      refine HandSPX.setFlight_anyZ stay2 fr2 ht2 fun h4 z1 z2 z3 z4 => wpAny_throw (k B2 { sI with heap := G, toks := sI.toks } _ I8 (fun b o z hb => (B1 b (Gn b o z)).trans (nb b o (by rw [← G1 b (Gn b o z)]; exact z) hb)) ?_ ⟨z1, ?_, z2, z3⟩ os ag fun x o ws z q => ?_)
      · refine Heap.UpToSlots.trans (h₂ := h2) (fun b o z hnf => ?_) z4
        have hb := Gn b o z
        obtain ⟨sl, q⟩ := (up.trans up1) b o (by rw [← G1 b hb]; exact z) hnf
        exact ⟨sl, (k2 b hb).trans q⟩
      · cases q : B2.get? a with
        | none => rfl
        | some u => rw [Bs a u q] at y2; cases y2
      · exact (B1 x (nf x o ws (y1 x o z) q)).trans z
    first
      | exact wpAny_bind (wpAny_pure (wpAny_bind go))
      | exact wpAny_bind go
  show wpAny _ X.A (noteFrame (.ref a) ce) _ _ s'
  rw [en]
  rw [hst] at sky
  rcases sky with ⟨hB, hn', hl, oe, vs, he, hz, hd, h1⟩ | fl | ⟨w1, w2, w3, w4⟩
  · exact PXN.look_newZ hZ frA hl hfr he hB hn' hd h1 hz fin
  · exact PXN.looks_onZ hZ frA hfr fl fin
  · exact looks_fromZ hZ frA hfr w1 w2 w3 w4 (by simp only [rawInt]; exact beq_eq_false_iff_ne.mpr fun z => cne (Int.ofNat.inj (Value.int.inj z).1)) fin
end PD
/-! PD77: list comprehensions whose block may let an exception out (ed_lcX; lcdX as lcd, its blocks with the def's wish about exceptions). -/
namespace PD
open PySem PySem.Spec PyProof.Rows L2
/-- the block's context, a wish of its own -/
abbrev blkX (X : Cx) (s : Shared) (H : Hp) (scope : Scope) (ce : Env) (fp : List Addr) (E : Value → Shared → Prop) : Cx := (X.blk s H scope ce fp).wish E
/-- what holds in all blocks that hand on what the def takes -/
def inBlk (X : Cx) (nn : Md) (WB : WX) (scope : Scope) (J : Cx → Prop) : Prop := ∀ (s : Shared) (H : Hp) (C : Addr) (cl : List (Str × Addr)) (fp : List Addr) (E : Value → Shared → Prop), TkB nn (blkX X s H scope (compEnvC scope cl C X.env) fp E) WB →
  PassesOwn (model X.prog X.w) X.A (compEnvC scope cl C X.env) E → J (blkX X s H scope (compEnvC scope cl C X.env) fp E)
def Wb (W : WX) (σ : L2.St) : WX := fun cls d _ H => W cls d σ H
section
variable {X : Cx} {elt tg iter : Expr} {ifs : List Expr} {scope : Scope} {own : List (Str × Nat)} {pos pos' : Pos} {wi : TI} {nn : Md} {W : WX}
theorem lc_coreX {pins : List (Addr × Obj)} {s : Shared} {σ : L2.St} {H : Hp} {Q : VK} {g : TG} {tt : TT} {te : TE} {use : Option (Value → Sem Unit)} {Qf : Value → Shared → Prop}
    (hc : X.calm = true) (hN : X.N.Nodup) (hst : X.stack = X.env :: X.outer) (hfr : X.env.frame = some X.env.locals) (tk : TkB nn X W) (I : Inv X pins σ H s) (hi : PI X tg iter wi) (ok : BlkOk X.N X.env.scope scope own)
    (hg : inBlk X nn (Wb W σ) scope fun Y => PG Y tg g) (ht : inBlk X nn (Wb W σ) scope fun Y => PTs Y ifs tt) (he : inBlk X nn (Wb W σ) scope fun Y => PE Y elt te) (hs : ∀ x, foldedSetIterable iter X.env x = pure x)
    (h : tLc wi g tt te (own.map (·.2)) σ H Q)
    (hRR : ∀ D C s' m H', Inv X pins σ H' s' → Q (.ref D) H' → s'.heap.Ns C m → FpOk X pins H' C → compPost (model X.prog X.w) X.A X.xe use Qf (.ref D) C (.ok .next) s') :
    wpAny (model X.prog X.w) X.A (comprehension (.ListComp elt [⟨tg, iter, ifs, 0⟩] scope pos) scope X.env pos' (newList []) false (eval iter X.env) use) Qf X.xe s := by
  have hfree : ∀ y ∈ scope.names, y.2 = .free → ∃ c, X.env.cells.lookup y.1 = some c := fun y hy e =>
    (ok.free y hy e).elim (fun k => I.ok.has _ (.inl k)) fun k => I.ok.has _ (.inr k)
  refine wpAny_compBlk (use := use) rfl hs (closure_ok hfree) ok.kind (fun y hy e => by rw [ok.uniq y hy, e])
    (thn (hi.run pins s σ H _ I h) fun xv s1 hx => thn hx fun itv s2 h2 => ?_)
  obtain ⟨it, fp, tn, J, H2, e, I2, T, st2, f2, q⟩ := h2
  subst e
  refine wpAny_newObj_type (newEnv_comp ?_) (by show 0 ≤ sizeLine; decide)
  generalize hD : s2.heap.objs.size = D
  obtain ⟨Wt, ⟨m0, w0⟩, turn⟩ := q D (I2.hok.fresh (Nat.le_of_eq hD))
  generalize hs3 : ({ s2 with heap := s2.heap.push { cls := .type "list", data := .seq ([] : List Value).toArray } } : Shared) = s3
  have h3 : s3.heap = s2.heap.push { cls := .type "list", data := .seq ([] : List Value).toArray } := by rw [← hs3]
  have I3 : Inv X pins σ (upd H2 D (.lst [])) s3 := by
    rw [← hs3]
    refine I2.laid (t' := s2.toks) (fun b o e => Heap.get?_push_of_some _ e) (Nat.le_of_eq hD) ⟨Nat.zero_le _, [], 0, .nil, ?_⟩
    rw [← hD]
    exact Heap.get?_push_size _ rfl
  have sz : ∀ b ∈ fp, b < s2.heap.objs.size := fun b hb => by
    obtain ⟨o, e, _⟩ := T.obj _ _ st2 b hb
    exact Heap.lt_size e
  have f3 : ∀ b ∈ fp, FpOk X pins (upd H2 D (.lst [])) b ∧ b < s3.heap.objs.size := fun b hb =>
    ⟨⟨by rw [upd_ne (by rw [← hD]; exact Nat.ne_of_lt (sz b hb))]; exact (f2 b hb).1, (f2 b hb).2⟩, by rw [h3, Heap.size_push]; exact Nat.lt_succ_of_lt (sz b hb)⟩
  have st3 : tn 0 s3.heap := T.keep _ _ _ st2 fun b _ o e => by rw [h3]; exact Heap.get?_push_of_some _ e
  have I4 := block_start I3 ok hN f3
  have pg := hg s3 (upd H2 D (.lst [])) s3.heap.objs.size (cellsFrom (s3.heap.objs.size + 1) scope.names (cloFrom X.env.cells scope.names [])) fp
  have pt := ht s3 (upd H2 D (.lst [])) s3.heap.objs.size (cellsFrom (s3.heap.objs.size + 1) scope.names (cloFrom X.env.cells scope.names [])) fp
  have pe := he s3 (upd H2 D (.lst [])) s3.heap.objs.size (cellsFrom (s3.heap.objs.size + 1) scope.names (cloFrom X.env.cells scope.names [])) fp
  show codeAny _ _ (.compStart (.ListComp elt [⟨tg, iter, ifs, 0⟩] scope pos) 0 (.ref it) (.ref D) (compEnvC scope (cellsFrom (s3.heap.objs.size + 1) scope.names (cloFrom X.env.cells scope.names [])) s3.heap.objs.size X.env))
    (BlkEnd (model X.prog X.w) X.A X.xe use Qf (.ref D) (compEnvC scope (cellsFrom (s3.heap.objs.size + 1) scope.names (cloFrom X.env.cells scope.names [])) s3.heap.objs.size X.env)) { s3 with heap := pushCells (s3.heap.push { cls := .type "dict", data := .dict #[] }) scope.names }
  have nfp : ∀ b ∈ fp, (upd H2 D (.lst [])) b = none := fun b hb => (f3 b hb).1.1
  generalize hce : compEnvC scope (cellsFrom (s3.heap.objs.size + 1) scope.names (cloFrom X.env.cells scope.names [])) s3.heap.objs.size X.env = ce at I4 pg pt pe ⊢
  have cL : ce.locals = s3.heap.objs.size := by subst hce; rfl
  have cF : ce.frame = X.env.frame := by subst hce; rfl
  generalize hH3 : upd H2 D (.lst []) = H3 at I3 I4 pg pt pe w0 nfp f3
  generalize hs4 : ({ s3 with heap := pushCells (s3.heap.push { cls := .type "dict", data := .dict #[] }) scope.names } : Shared) = s4 at I4 ⊢
  have st4 : tn 0 s4.heap := T.keep _ _ _ st3 fun b _ o e => by rw [← hs4]; exact pushCells_keeps _ _ _ _ (Heap.get?_push_of_some _ e)
  -- the block's own wish
  generalize hE : (notedBy (model X.prog X.w) X.A ce fun e s' => BlkEnd (model X.prog X.w) X.A X.xe use Qf (.ref D) ce (.error e) s') = EB
  have tkb : TkB nn (blkX X s3 H3 scope ce fp EB) (Wb W σ) := by
    subst hE
    have f3' : ∀ b ∈ fp, FpOk X pins H3 b := fun b hb => (f3 b hb).1
    match nn, tk with
    | some true, tk =>
      rintro u s' ⟨a, B, sI, pins', σ', H', cls, d, rfl, Ib, nb, up, sky, na, os, ag, w⟩
      exact blk_out I3 hst hfr cL cF f3' L2N.Zn.steady Ib nb up sky na os ag fun B2 sI2 s2 I2 nb2 up2 hh os2 ag2 _ => tk _ _ ⟨a, B2, sI2, pins, σ, H', cls, d, rfl, I2, nb2, up2, .inr (.inr hh), na, os2, ag2, w⟩
    | some false, tk =>
      rintro u s' ⟨a, B, sI, pins', σ', H', cls, d, rfl, Ib, nb, up, sky, na, os, ag, w⟩
      exact blk_out I3 hst hfr cL cF f3' (fun o v z => Zc.steady o _ z) Ib nb up sky na os ag fun B2 sI2 s2 I2 nb2 up2 hh os2 ag2 _ => tk _ _ ⟨a, B2, sI2, pins, σ, H', cls, d, rfl, I2, nb2, up2, .inr (.inr hh), na, os2, ag2, w⟩
    | none, tk =>
      rintro u s' ⟨a, B, sI, pins', σ', H', cls, d, rfl, Ib, nb, up, ⟨c, kc, sky⟩, na, os, ag, w⟩
      refine blk_out I3 hst hfr cL cF f3' Zx.steady Ib nb up sky na os ag fun B2 sI2 s2 I2 nb2 up2 hh os2 ag2 kB => tk _ _ ⟨a, B2, sI2, pins, σ, H', cls, d, rfl, I2, nb2, up2, ⟨c, ?_, .inr (.inr hh)⟩, na, os2, ag2, w⟩
      rcases kc with rfl | ⟨x, o, vs, rfl, h1, h2, h3, h4⟩
      · exact .inl rfl
      · exact .inr ⟨x, o, vs, rfl, kB x o vs h1 h3, h2, h3, h4⟩
  have pob : PassesOwn (model X.prog X.w) X.A ce EB := by
    subst hE
    exact PassesOwn.looking
  have pg := pg EB tkb pob
  have pt := pt EB tkb pob
  have pe := pe EB tkb pob
  have I4 : Inv (blkX X s3 H3 scope ce fp EB) [] (L2.wipe σ (own.map (·.2))) H3 s4 := I4.wish EB
  have stat : ∀ {σ' : L2.St} {H' : Hp} {s' : Shared}, Inv (blkX X s3 H3 scope ce fp EB) [] σ' H' s' → (∀ b ∈ fp, H' b = none) → ∀ b ∈ fp, FpOk (blkX X s3 H3 scope ce fp EB) [] H' b := fun {σ' H' s'} I' hn b hb =>
    ⟨hn b hb, (I'.ok.exf b hb).1, I'.ok.exfs b hb, .inl hb, fun x c e => (I'.ok.exf b hb).2 x c e, fun p hp => absurd (show p ∈ ([] : List (Addr × Obj)) ++ [] from hp) (by simp)⟩
  have loop : codeAny (model X.prog X.w) X.A (.compLoop (.ListComp elt [⟨tg, iter, ifs, 0⟩] scope pos) 0 (.ref it) (.ref D) ce) (BlkEnd (model X.prog X.w) X.A X.xe use Qf (.ref D) ce) s4 := by
    refine compLoop_any (fun n s' => ∃ i H', Inv (blkX X s3 H3 scope ce fp EB) [] (L2.wipe σ (own.map (·.2))) H' s' ∧ tn i s'.heap ∧ (∀ b ∈ fp, H' b = none) ∧ Wt i n H') ?_ m0 ⟨0, H3, I4, st4, nfp, w0⟩
    rintro n s5 ⟨i, H5, I5, st5, n5, w5⟩
    rw [hE]
    rcases turn i n H5 w5 with ⟨stop, qq⟩ | ⟨go, Nx, hNx, step⟩
    · have td := T.done (blkX X s3 H3 scope ce fp EB) rfl rfl rfl hc i [] s5 _ H5 EB I5 (stat I5 n5) st5 stop
      refine wpAny_mono td (fun r s6 ⟨hr, I6⟩ => ?_) fun _ _ y => y
      subst hr
      have I7 : Inv X pins σ H5 s6 := I3.call' (ch := fp) I6.os I6.base I6.hok I6.bare fun b hb => ⟨(f3 b hb).1.2.2.2.1, (f3 b hb).1.2.1, (f3 b hb).1.2.2.2.2.1, (f3 b hb).1.2.2.2.2.2⟩
      have nC : H5 s3.heap.objs.size = none := by rw [← cL]; exact I6.free
      obtain ⟨m, hn, _⟩ := I6.loc
      have hn : s6.heap.Ns ce.locals m := hn
      show compPost _ _ _ _ _ _ ce.locals (.ok .next) s6
      rw [cL] at hn ⊢
      exact hRR D s3.heap.objs.size s6 m H5 I7 qq hn (I3.fpOk (Nat.le_refl _) nC)
    · have ti := T.item (blkX X s3 H3 scope ce fp EB) rfl rfl rfl hc i [] s5 _ H5 EB I5 (stat I5 n5) st5 go
      refine wpAny_mono ti (fun r s6 ⟨u, hr, h6⟩ => ?_) fun _ _ y => y
      subst hr
      refine wpAny_mono h6 (fun _ s7 ⟨x, H7, I7, r7, y7, st7, n7⟩ => ?_) fun _ _ y => y
      have I7' := I7.pinned (stat I7 n7) (T.obj _ _ st7)
      refine wpAny_mono (pg.run _ s7 _ H7 x u _ I7' r7 (step x H7 y7)) (fun _ s8 ⟨σ8, H8, I8, hw8, q8⟩ => ?_) fun _ _ y => y
      refine wpAny_mono (pt.run _ s8 σ8 H8 _ I8 q8) (fun b s9 ⟨H9, I9, q9⟩ => ?_) fun _ _ y => y
      have fin : ∀ {s' : Shared} {H' : Hp}, Inv (blkX X s3 H3 scope ce fp EB) ([] ++ pinsAt fp s7.heap) σ8 H' s' → Nx H' → ∃ m, m < n ∧ ∃ i H', Inv (blkX X s3 H3 scope ce fp EB) [] (L2.wipe σ (own.map (·.2))) H' s' ∧ tn i s'.heap ∧ (∀ b ∈ fp, H' b = none) ∧ Wt i m H' := fun {s' H'} I' nx => by
        obtain ⟨m', hm, w'⟩ := hNx H' nx
        have pin' : ∀ b ∈ fp, ∀ o, s7.heap.get? b = some o → s'.heap.get? b = some o ∧ H' b = none := fun b hb o e =>
          let z := I'.pin (b, o) (List.mem_append_right _ (List.mem_append_right _ (mem_pinsAt hb e)))
          ⟨z.1, z.2.1⟩
        have hl : (L2.wipe σ (own.map (·.2))).length = σ8.length := by rw [← hw8, wipe_length]
        refine ⟨m', hm, i + 1, H', (I'.unpinned (pins := [])).weak hl (fun j v e => ?_), T.keep _ _ _ st7 fun b hb o e => (pin' b hb o e).1, fun b hb => ?_, w'⟩
        · rw [← hw8] at e
          exact (wipe_some e).1
        · obtain ⟨o, e, _⟩ := T.obj _ _ st7 b hb
          exact (pin' b hb o e).2
      cases b with
      | false =>
        simp only [Bool.false_eq_true, if_false] at q9 ⊢
        exact fin I9 q9
      | true =>
        simp only [if_true] at q9 ⊢
        refine wpAny_mono (pe.run _ s9 σ8 H9 _ I9 q9) (fun z s10 ⟨yv, H10, I10, r10, acc, hD10, hz10, nx⟩ => ?_) fun _ _ y => y
        exact app_ok (X := blkX X s3 H3 scope ce fp EB) I10 hD10 hz10 r10 fun s11 I11 => fin I11 nx
  exact codeAny_compStart_list loop (T.self X.A 0 _ _ _ st4 loop)
/-- as a value -/
theorem pe_lcX {g : L2.St → TG} {tt : L2.St → TT} {te : L2.St → TE} (hc : X.calm = true) (hN : X.N.Nodup) (hst : X.stack = X.env :: X.outer) (hfr : X.env.frame = some X.env.locals) (tk : TkB nn X W) (hi : PI X tg iter wi) (ok : BlkOk X.N X.env.scope scope own)
    (hg : ∀ σ, inBlk X nn (Wb W σ) scope fun Y => PG Y tg (g σ)) (ht : ∀ σ, inBlk X nn (Wb W σ) scope fun Y => PTs Y ifs (tt σ)) (he : ∀ σ, inBlk X nn (Wb W σ) scope fun Y => PE Y elt (te σ)) (hs : ∀ x, foldedSetIterable iter X.env x = pure x := by intro _; rfl) :
    PE X (.ListComp elt [⟨tg, iter, ifs, 0⟩] scope pos) (fun σ H Q => tLc wi (g σ) (tt σ) (te σ) (own.map (·.2)) σ H Q) := by
  refine ⟨fun pins s σ H Q I h => ?_⟩
  rw [eval_ListComp]
  refine lc_coreX hc hN hst hfr tk I hi ok (hg σ) (ht σ) (he σ) hs h fun D C s' m H' I' q hn f => ⟨m, hn, fun h2 sb => ?_⟩
  obtain ⟨f0, f1, f2, f3, f4, f5⟩ := f
  exact ⟨.ref D, H', I'.turned (t' := s'.toks) (fun b o hb e => (sb.2 b hb).trans e) f0 f1 f3 f4 f5, rfl, q⟩
end
end PD
/-! PD78: lcdX, ed_lcX: a list comprehension over data, its block may let an exception out (the def's promise about exceptions at the slots ahead of the comprehension). -/
namespace PD
open PySem PySem.Spec PyProof.Rows L2
abbrev WblkD (Γ : Ct) (δ : Dl) : XD := fun cls ns ds _ μ => Γ.W cls ns ds δ μ
@[reducible] def Ct.blkX (Γ : Ct) (δ : Dl) (scope : Scope) (s : Shared) (H : Hp) (C : Addr) (cl : List (Str × Addr)) (fp : List Addr) (E : Value → Shared → Prop) (F0 : Hp) (μ0 : Mu) (H0 : Hp)
    (tk : TkB Γ.nn (PD.blkX Γ.X s H scope (compEnvC scope cl C Γ.X.env) fp E) (WofD Γ.X.K F0 μ0 H0 (WblkD Γ δ))) (po : PassesOwn (model Γ.X.prog Γ.X.w) Γ.X.A (compEnvC scope cl C Γ.X.env) E) : Ct :=
  ⟨PD.blkX Γ.X s H scope (compEnvC scope cl C Γ.X.env) fp E, F0, μ0, H0, WblkD Γ δ, Γ.nn, tk, po⟩
/-- a judgement in all such blocks -/
def allX (Γ : Ct) (δ : Dl) (scope : Scope) (J : Ct → Prop) : Prop := ∀ (s : Shared) (H : Hp) (C : Addr) (cl : List (Str × Addr)) (fp : List Addr) (E : Value → Shared → Prop) (F0 : Hp) (μ0 : Mu) (H0 : Hp)
    (tk : TkB Γ.nn (PD.blkX Γ.X s H scope (compEnvC scope cl C Γ.X.env) fp E) (WofD Γ.X.K F0 μ0 H0 (WblkD Γ δ))) (po : PassesOwn (model Γ.X.prog Γ.X.w) Γ.X.A (compEnvC scope cl C Γ.X.env) E), J (Γ.blkX δ scope s H C cl fp E F0 μ0 H0 tk po)
section
variable {Γ : Ct} {elt tg iter : Expr} {ifs : List Expr} {scope : Scope} {own : List (Str × Nat)} {pos : Pos} {δ : Dl} {μ : Mu}
def lcdX (Γ : Ct) (elt tg iter : Expr) (ifs : List Expr) (scope : Scope) (vs : List Nat) (δ : Dl) (μ : Mu) (Q : List D → Mu → Prop) : Prop := eid Γ tg iter δ μ fun ds S μ1 => ds.length ≤ 1000000 ∧ ∃ I : Nat → List D → Mu → Prop, I 0 [] μ1 ∧ (∀ i acc μ', i ≤ ds.length → I i acc μ' → S μ' ∧ acc.length ≤ i) ∧
      (∀ i d acc μ', ds[i]? = some d → I i acc μ' → allX Γ δ scope fun Γb => gv Γb tg d vs (wipeD δ vs) μ' fun δ2 μ2 => allX Γ δ scope fun Γc => eif Γc ifs δ2 μ2 fun b μ3 =>
        if b = true then allX Γ δ scope fun Γd => ed Γd elt δ2 μ3 fun r μ4 => I (i + 1) (acc ++ [r]) μ4 else I (i + 1) acc μ3) ∧ ∀ acc μ', I ds.length acc μ' → Q acc μ'
def wgX (X : Cx) (nn : Md) (W : WX) (scope : Scope) (tg : Expr) (σ0 : L2.St) : TG := fun v σ H Q => inBlk X nn (Wb W σ0) scope fun Y => wg Y tg v σ H Q
def wtX (X : Cx) (nn : Md) (W : WX) (scope : Scope) (ifs : List Expr) (σ0 : L2.St) : TT := fun σ H Q => inBlk X nn (Wb W σ0) scope fun Y => wif Y ifs σ H Q
def weX (X : Cx) (nn : Md) (W : WX) (scope : Scope) (elt : Expr) (σ0 : L2.St) : TE := fun σ H Q => inBlk X nn (Wb W σ0) scope fun Y => we Y elt σ H Q
theorem LcAt.tk {F1 F H : Hp} {σ : L2.St} {Da : Addr} {acc : List D} (L : LcAt Γ F1 δ σ Da acc μ H F) {Y : Cx} (t : TkB Γ.nn Y (Wb (WofD Γ.X.K Γ.F0 Γ.μ0 Γ.H0 Γ.W) σ)) : TkB Γ.nn Y (WofD Γ.X.K F μ H (WblkD Γ δ)) :=
  t.imp fun cls d σb Hb ⟨F5, μ5, δ5, ns, ds, st, sx, fr, xd, w⟩ => ⟨F5, μ5, δ, ns, ds, L.at_.st.trans st, sx, L.at_.fr.mono st.ext, xd, w⟩
theorem lcdX_run {vs : List Nat} {Q : List D → Mu → Prop} (h : lcdX Γ elt tg iter ifs scope vs δ μ Q) (F σ H) (a : At Γ F δ μ σ H) :
    tLc (wi Γ.X tg iter) (wgX Γ.X Γ.nn (WofD Γ.X.K Γ.F0 Γ.μ0 Γ.H0 Γ.W) scope tg σ) (wtX Γ.X Γ.nn (WofD Γ.X.K Γ.F0 Γ.μ0 Γ.H0 Γ.W) scope ifs σ) (weX Γ.X Γ.nn (WofD Γ.X.K Γ.F0 Γ.μ0 Γ.H0 Γ.W) scope elt σ) vs σ H (PostE Γ F δ σ fun d μ' => ∃ ds, d = .lst ds ∧ Q ds μ') := by
  refine wi_mono (h F σ H a) fun J H1 ⟨F1, ds, S, μ1, s1, a1, ok, hz, I, h0, hS, hb, hd⟩ => fun Da hD => ?_
  have h0D : Γ.H0 Da = none ∨ Da ∈ dom Γ.μ0 := a1.st.back hD
  refine ⟨fun i m H' => m = ds.length - i ∧ i ≤ ds.length ∧ ∃ F' acc μ', LcAt Γ F1 δ σ Da acc μ' H' F' ∧ I i acc μ', ⟨ds.length, by simp, Nat.zero_le _, F1, [], μ1, ⟨Same.refl _, a1.ext (same_upd hD), ⟨[], upd_same, Dps.nil⟩, a1.sx.sub.free hD, fun hm => ?_⟩, h0⟩, ?_⟩
  · obtain ⟨c, hc, e⟩ := List.mem_map.mp hm
    obtain ⟨u, hu⟩ := (a1.sx.cells c hc).there
    rw [e, hD] at hu; cases hu
  rintro i m H' ⟨rfl, hi, F', acc, μ', L, hI⟩
  obtain ⟨hSi, hacc⟩ := hS i acc μ' hi hI
  by_cases hlt : i < ds.length
  · have e : ds[i]? = some ds[i] := List.getElem?_eq_getElem hlt
    have ah := L.at_.here
    obtain ⟨g1, g2⟩ := ok.go (Γ.here L.at_.st) rfl i F' δ μ' σ H' L.sm ah hSi _ e
    refine .inr ⟨g1, fun H2 => ∃ F2 acc2 μ2, LcAt Γ F1 δ σ Da acc2 μ2 H2 F2 ∧ I (i + 1) acc2 μ2, fun H2 ⟨F2, acc2, μ2, L2', q2⟩ => ⟨ds.length - (i + 1), by omega, rfl, hlt, F2, acc2, μ2, L2', q2⟩, fun x H2 y => ?_⟩
    obtain ⟨F2, s2, a2, r2⟩ := g2 x H2 y
    have LL := L.step (σb := σ) (δb := δ) a2.st a2.sx
    intro sB HB C cl fp E tkE poE
    have aB : At (Γ.blkX δ scope sB HB C cl fp E F2 μ' H2 (LL.tk tkE) poE) F2 (wipeD δ vs) μ' (L2.wipe σ vs) H2 := ⟨Step.refl _ _ _, LL.at_.sx, LL.at_.fr.wipe vs⟩
    refine wg_mono (hb i _ acc μ' e hI sB HB C cl fp E F2 μ' H2 (LL.tk tkE) poE F2 (L2.wipe σ vs) H2 x aB r2) fun σ3 H3 ⟨w3, F3, δ3, μ3, s3, a3, q3⟩ => ⟨w3.trans wipe_wipe, ?_⟩
    have L3 := LL.step (σb := σ) (δb := δ) a3.st a3.sx
    intro sB2 HB2 C2 cl2 fp2 E2 tkE2 poE2
    have aC : At (Γ.blkX δ scope sB2 HB2 C2 cl2 fp2 E2 F3 μ3 H3 (L3.tk tkE2) poE2) F3 δ3 μ3 σ3 H3 := ⟨Step.refl _ _ _, a3.sx, a3.fr⟩
    refine eif_run (q3 sB2 HB2 C2 cl2 fp2 E2 F3 μ3 H3 (L3.tk tkE2) poE2) aC fun b H4 ⟨F4, μ4, s4, a4, q4⟩ => ?_
    have L4 := L3.step (σb := σ) (δb := δ) a4.st a4.sx
    cases b with
    | true =>
      rw [if_pos rfl] at q4 ⊢
      intro sB5 HB5 C5 cl5 fp5 E5 tkE5 poE5
      have aE : At (Γ.blkX δ scope sB5 HB5 C5 cl5 fp5 E5 F4 μ4 H4 (L4.tk tkE5) poE5) F4 δ3 μ4 σ3 H4 := ⟨Step.refl _ _ _, a4.sx, a4.fr⟩
      refine we_mono (q4 sB5 HB5 C5 cl5 fp5 E5 F4 μ4 H4 (L4.tk tkE5) poE5 F4 σ3 H4 aE) fun v H5 ⟨F5, r, μ5, s5, a5, r5, q5⟩ => ?_
      have L5 := L4.step (σb := σ) (δb := δ) a5.st a5.sx
      obtain ⟨ws, h1, h2⟩ := L5.ls
      refine ⟨ws, h1, ?_, F5, acc ++ [r], μ5, ⟨L5.sm, L5.at_.updFree h0D L5.f L5.m, ⟨ws ++ [v], upd_same, h2.append (Dps.cons r5 Dps.nil)⟩, L5.f, L5.m⟩, q5⟩
      rw [← h2.length, sizeLine_eq]
      omega
    | false =>
      rw [if_neg Bool.false_ne_true] at q4 ⊢
      exact ⟨F4, acc, μ4, L4, q4⟩
  · have e : i = ds.length := by omega
    subst e
    refine .inl ⟨ok.stop Γ rfl _ F' δ μ' σ H' L.sm L.at_ hSi (Nat.le_refl _), ?_⟩
    obtain ⟨ws, h1, h2⟩ := L.ls
    have sF := same_upd (o := HO.lst ws) L.f
    have ah := L.at_
    have a2 : At Γ (upd F' Da (.lst ws)) δ μ' σ H' := by
      refine ⟨⟨ah.st.ext.trans sF, ah.st.keep, fun b u h hn => ?_, ah.st.cell⟩, ⟨fun b u h => ?_, fun c hc => ?_, ah.sx.nd, fun c hc => (ah.sx.cells c hc).mono sF rfl⟩, ah.fr.mono sF⟩
      · by_cases q : b = Da
        · rw [q]; exact h0D
        · rw [upd_ne q] at h; exact ah.st.new b u h hn
      · by_cases q : b = Da
        · rw [q, upd_same] at h; rw [q, ← h]; exact h1
        · rw [upd_ne q] at h; exact ah.sx.sub _ _ h
      · rw [upd_ne (fun e => L.m (by rw [← e]; exact List.mem_map.mpr ⟨c, hc, rfl⟩))]; exact ah.sx.off c hc
    exact ⟨_, .lst acc, μ', s1.trans (L.sm.trans sF), a2, dpl upd_same (h2.mono sF), acc, rfl, hd acc μ' hI⟩
theorem ed_lcX {own : List (Str × Nat)} {Q : D → Mu → Prop} (own_ : List (Str × Nat)) (e : own = own_) (hc : Γ.X.calm = true) (hN : Γ.X.N.Nodup) (ok : BlkOk Γ.X.N Γ.X.env.scope scope own) (h : lcdX Γ elt tg iter ifs scope (own.map (·.2)) δ μ fun ds μ' => Q (.lst ds) μ')
    (hs : ∀ x, foldedSetIterable iter Γ.X.env x = pure x := by intro _; rfl) (hst : Γ.X.stack = Γ.X.env :: Γ.X.outer := by rfl) (hfr : Γ.X.env.frame = some Γ.X.env.locals := by rfl) : ed Γ (.ListComp elt [⟨tg, iter, ifs, 0⟩] scope pos) δ μ Q := fun F σ H a =>
  we_mono (we_of (pe_lcX (W := WofD Γ.X.K Γ.F0 Γ.μ0 Γ.H0 Γ.W) (g := wgX Γ.X Γ.nn (WofD Γ.X.K Γ.F0 Γ.μ0 Γ.H0 Γ.W) scope tg) (tt := wtX Γ.X Γ.nn (WofD Γ.X.K Γ.F0 Γ.μ0 Γ.H0 Γ.W) scope ifs) (te := weX Γ.X Γ.nn (WofD Γ.X.K Γ.F0 Γ.μ0 Γ.H0 Γ.W) scope elt) hc hN hst hfr Γ.tk pi_wi ok
    (fun σ0 s H C cl fp E tk po => ⟨fun pins s' σ H' v u Q I r z => z s H C cl fp E tk po pins s' u I r⟩)
    (fun σ0 s H C cl fp E tk po => ⟨fun pins s' σ H' Q I z => (pts_wif ifs).run pins s' σ H' Q I (z s H C cl fp E tk po)⟩)
    (fun σ0 s H C cl fp E tk po => ⟨fun pins s' σ H' Q I z => z s H C cl fp E tk po pins s' I⟩) hs) (lcdX_run h F σ H a)) fun v H' ⟨F', d, μ', s, a', r, ds, e, q⟩ => ⟨F', d, μ', s, a', r, by rw [e]; exact q⟩
end
end PD
/-! PD79: names in a block that may let an exception out (rows of --#rowsX). -/
namespace PD
open PySem PySem.Spec PyProof.Rows L2
section
variable {Γ0 : Ct} {N : List Str} {sc scope : Scope} {i : Nat} {x : Str} {d : D} {δ δ0 : Dl} {μ : Mu} {Q : D → Mu → Prop} {R : Dl → Mu → Prop} {pos : Pos} {s : Shared} {H : Hp} {C : Addr} {cl : List (Str × Addr)} {fp : List Addr} {E : Value → Shared → Prop} {F0 : Hp} {μ0 : Mu} {H0 : Hp} {vs : List Nat}
  {tk : TkB Γ0.nn (PD.blkX Γ0.X s H scope (compEnvC scope cl C Γ0.X.env) fp E) (WofD Γ0.X.K F0 μ0 H0 (WblkD Γ0 δ0))} {po : PassesOwn (model Γ0.X.prog Γ0.X.w) Γ0.X.A (compEnvC scope cl C Γ0.X.env) E}
theorem blkX_scope (e : Γ0.X.env.scope = sc) : (Γ0.blkX δ0 scope s H C cl fp E F0 μ0 H0 tk po).X.env.scope = relS scope sc := by rw [← e]; rfl
theorem ed_nmCX (n : NmB N i x) (q : δ[i]? = some (some d)) (h : Q d μ) (v : ((relS scope sc).names.lookup x = some .local ∨ (relS scope sc).names.lookup x = some .cell) ∨ (relS scope sc).names.lookup x = some .free := by decide +kernel) (e : Γ0.X.env.scope = sc := by rfl) (e2 : Γ0.X.N = N := by rfl) :
    ed (Γ0.blkX δ0 scope s H C cl fp E F0 μ0 H0 tk po) (.Name x pos) δ μ Q := by
  refine ed_name (i := i) ?_ q h ?_ n.dbg n.cls
  · show Γ0.X.N[i]? = some x
    rw [e2]; exact n.at_
  · rw [blkX_scope e]
    rcases v with (v | v) | v
    · exact .inl v
    · exact .inr (.inl v)
    · exact .inr (.inr v)
theorem ed_nmBX (n : Nm N sc i x) (q : δ[i]? = some (some d)) (h : Q d μ) (v : ((relS scope sc).names.lookup x = some .local ∨ (relS scope sc).names.lookup x = some .cell) ∨ (relS scope sc).names.lookup x = some .free := by decide +kernel) (e : Γ0.X.env.scope = sc := by rfl) (e2 : Γ0.X.N = N := by rfl) :
    ed (Γ0.blkX δ0 scope s H C cl fp E F0 μ0 H0 tk po) (.Name x pos) δ μ Q := ed_nmCX (sc := sc) ⟨n.at_, n.dbg, n.cls⟩ q h v e e2
theorem gv_nmCX (n : NmB N i x) (hN : N.Nodup) (hv : i ∈ vs) (h : R (δ.set i (some d)) μ) (v : (relS scope sc).names.lookup x = some .local ∨ ((relS scope sc).names.lookup x = some .cell ∧ scope.names.lookup x = some .cell) := by decide +kernel) (e : Γ0.X.env.scope = sc := by rfl) (e2 : Γ0.X.N = N := by rfl) :
    gv (Γ0.blkX δ0 scope s H C cl fp E F0 μ0 H0 tk po) (.Name x pos) d vs δ μ R := by
  refine gv_name (i := i) (by show Γ0.X.N.Nodup; rw [e2]; exact hN) (by show Γ0.X.N[i]? = some x; rw [e2]; exact n.at_) hv h ?_ ?_
  · rw [blkX_scope e]; rcases v with v | v
    · exact .inl v
    · exact .inr v.1
  · rw [blkX_scope e]; rcases v with v | v
    · exact .inr v
    · refine .inl ?_
      show (scope.names.lookup x == some .cell) = true
      rw [v.2]; rfl
theorem glBX_of (h : (relS scope sc).names.lookup x = some .globalImplicit := by decide +kernel) (e : Γ0.X.env.scope = sc := by rfl) : Gl (Γ0.blkX δ0 scope s H C cl fp E F0 μ0 H0 tk po).X x := by
  show (Γ0.blkX δ0 scope s H C cl fp E F0 μ0 H0 tk po).X.env.scope.names.lookup x = _
  rw [blkX_scope e]; exact h
end
end PD
/-! PD80: x.partition(y); where a token is out: if name == ".."; methods and classmethods called with such arguments. -/
namespace PD
open PySem PySem.Spec PyProof.Rows L2 ClX
end PD
/-! PD81: exceptions that are kept as values: made by place, by name, with nothing; what they keep; isinstance. -/
namespace PySem
end PySem
namespace PD
open PySem PySem.Spec PyProof.Rows L2
end PD
/-! PD82: kept exceptions over data: D.exv made by place, by name, with nothing; what they keep; isinstance. -/
namespace PD
open PySem PySem.Spec PySem.Calls PyProof.Rows L2
end PD
/-! PD83: a list comprehension whose list is changed later (it is owned); repr of texts and of None. -/
namespace PD
open PySem PySem.Spec PyProof.Rows L2
section
variable {Γ : Ct} {elt tg iter : Expr} {ifs : List Expr} {scope : Scope} {own : List (Str × Nat)} {pos : Pos} {δ : Dl} {μ : Mu} {Q : D → Mu → Prop}
theorem lcd_runO {vs : List Nat} {Q : List D → Mu → Prop} (h : lcd Γ elt tg iter ifs scope vs δ μ Q) (F σ H) (a : At Γ F δ μ σ H) :
    tLc (wi Γ.X tg iter) (wgB Γ.X scope tg) (wtB Γ.X scope ifs) (weB Γ.X scope elt) vs σ H (PostE Γ F δ σ fun d μ' => ∃ p ds μ0, d = .ref p ∧ μ' = (p, Cell.lst ds) :: μ0 ∧ Q ds μ0) := by
  refine wi_mono (h F σ H a) fun J H1 ⟨F1, ds, S, μ1, s1, a1, ok, hz, I, h0, hS, hb, hd⟩ => fun Da hD => ?_
  have h0D : Γ.H0 Da = none ∨ Da ∈ dom Γ.μ0 := a1.st.back hD
  refine ⟨fun i m H' => m = ds.length - i ∧ i ≤ ds.length ∧ ∃ F' acc μ', LcAt Γ F1 δ σ Da acc μ' H' F' ∧ I i acc μ', ⟨ds.length, by simp, Nat.zero_le _, F1, [], μ1, ⟨Same.refl _, a1.ext (same_upd hD), ⟨[], upd_same, Dps.nil⟩, a1.sx.sub.free hD, fun hm => ?_⟩, h0⟩, ?_⟩
  · obtain ⟨c, hc, e⟩ := List.mem_map.mp hm
    obtain ⟨u, hu⟩ := (a1.sx.cells c hc).there
    rw [e, hD] at hu; cases hu
  rintro i m H' ⟨rfl, hi, F', acc, μ', L, hI⟩
  obtain ⟨hSi, hacc⟩ := hS i acc μ' hi hI
  by_cases hlt : i < ds.length
  · have e : ds[i]? = some ds[i] := List.getElem?_eq_getElem hlt
    have ah := L.at_.here
    obtain ⟨g1, g2⟩ := ok.go (Γ.here L.at_.st) rfl i F' δ μ' σ H' L.sm ah hSi _ e
    refine .inr ⟨g1, fun H2 => ∃ F2 acc2 μ2, LcAt Γ F1 δ σ Da acc2 μ2 H2 F2 ∧ I (i + 1) acc2 μ2, fun H2 ⟨F2, acc2, μ2, L2', q2⟩ => ⟨ds.length - (i + 1), by omega, rfl, hlt, F2, acc2, μ2, L2', q2⟩, fun x H2 y => ?_⟩
    obtain ⟨F2, s2, a2, r2⟩ := g2 x H2 y
    have LL := L.step (σb := σ) (δb := δ) a2.st a2.sx
    intro sB HB C cl fp
    have aB : At (Γ.blk scope sB HB C cl fp F2 μ' H2) F2 (wipeD δ vs) μ' (L2.wipe σ vs) H2 := ⟨Step.refl _ _ _, LL.at_.sx, LL.at_.fr.wipe vs⟩
    refine wg_mono (hb i _ acc μ' e hI sB HB C cl fp F2 μ' H2 F2 (L2.wipe σ vs) H2 x aB r2) fun σ3 H3 ⟨w3, F3, δ3, μ3, s3, a3, q3⟩ => ⟨w3.trans wipe_wipe, ?_⟩
    have L3 := LL.step (σb := σ) (δb := δ) a3.st a3.sx
    intro sB2 HB2 C2 cl2 fp2
    have aC : At (Γ.blk scope sB2 HB2 C2 cl2 fp2 F3 μ3 H3) F3 δ3 μ3 σ3 H3 := ⟨Step.refl _ _ _, a3.sx, a3.fr⟩
    refine eif_run (q3 sB2 HB2 C2 cl2 fp2 F3 μ3 H3) aC fun b H4 ⟨F4, μ4, s4, a4, q4⟩ => ?_
    have L4 := L3.step (σb := σ) (δb := δ) a4.st a4.sx
    cases b with
    | true =>
      rw [if_pos rfl] at q4 ⊢
      intro sB5 HB5 C5 cl5 fp5
      have aE : At (Γ.blk scope sB5 HB5 C5 cl5 fp5 F4 μ4 H4) F4 δ3 μ4 σ3 H4 := ⟨Step.refl _ _ _, a4.sx, a4.fr⟩
      refine we_mono (q4 sB5 HB5 C5 cl5 fp5 F4 μ4 H4 F4 σ3 H4 aE) fun v H5 ⟨F5, r, μ5, s5, a5, r5, q5⟩ => ?_
      have L5 := L4.step (σb := σ) (δb := δ) a5.st a5.sx
      obtain ⟨ws, h1, h2⟩ := L5.ls
      refine ⟨ws, h1, ?_, F5, acc ++ [r], μ5, ⟨L5.sm, L5.at_.updFree h0D L5.f L5.m, ⟨ws ++ [v], upd_same, h2.append (Dps.cons r5 Dps.nil)⟩, L5.f, L5.m⟩, q5⟩
      rw [← h2.length, sizeLine_eq]
      omega
    | false =>
      rw [if_neg Bool.false_ne_true] at q4 ⊢
      exact ⟨F4, acc, μ4, L4, q4⟩
  · have e : i = ds.length := by omega
    subst e
    refine .inl ⟨ok.stop Γ rfl _ F' δ μ' σ H' L.sm L.at_ hSi (Nat.le_refl _), ?_⟩
    obtain ⟨ws, h1, h2⟩ := L.ls
    have ah := L.at_
    have a2 : At Γ F' δ ((Da, Cell.lst acc) :: μ') σ H' := by
      refine ⟨⟨ah.st.ext, ah.st.keep, ah.st.new, fun c hc => ?_⟩, ⟨ah.sx.sub, fun c hc => ?_, List.nodup_cons.mpr ⟨L.m, ah.sx.nd⟩, fun c hc => ?_⟩, ah.fr⟩
      · rcases List.mem_cons.mp hc with e | hc
        · rw [e]; exact h0D.symm
        · exact ah.st.cell c hc
      · rcases List.mem_cons.mp hc with e | hc
        · rw [e]; exact L.f
        · exact ah.sx.off c hc
      · rcases List.mem_cons.mp hc with e | hc
        · rw [e]; exact ⟨ws, h1, h2⟩
        · exact ah.sx.cells c hc
    exact ⟨_, .ref Da, _, s1.trans L.sm, a2, by rw [Dp], Da, acc, μ', rfl, rfl, hd acc μ' hI⟩
/-- name = [..] -/
theorem sd_setLcO {own : List (Str × Nat)} {E : En} {i : Nat} {y : Str} {py spos : Pos} (hc : Γ.X.calm = true) (hN : Γ.X.N.Nodup) (hy : Γ.X.N[i]? = some y) (hyl : Γ.X.env.scope.names.lookup y = some .local)
    (hsw : swapsWith (.ListComp elt [⟨tg, iter, ifs, 0⟩] scope pos) (some (.Name y py)) spos.line Γ.X.env = pure true) (ok : BlkOk Γ.X.N Γ.X.env.scope scope own)
    (h : lcd Γ elt tg iter ifs scope (own.map (·.2)) δ μ fun ds μ' => ∀ p, E.nx (δ.set i (some (.ref p))) ((p, Cell.lst ds) :: μ')) (hs : ∀ x, foldedSetIterable iter Γ.X.env x = pure x := by intro _; rfl) :
    sd Γ (.Assign [.Name y py] (.ListComp elt [⟨tg, iter, ifs, 0⟩] scope pos) spos) δ μ E := fun F σ H a => by
  have key := lcd_runO h F σ H a
  refine ws_of (ps_setLc (g := wgB Γ.X scope tg) (tt := wtB Γ.X scope ifs) (te := weB Γ.X scope elt) hc hN hy hyl hsw pi_wi ok pg_wgB pts_wtB pe_weB hs) ?_
  have mono : ∀ {Q Q' : VK}, (∀ v H', Q v H' → Q' v H') → tLc (wi Γ.X tg iter) (wgB Γ.X scope tg) (wtB Γ.X scope ifs) (weB Γ.X scope elt) (own.map (·.2)) σ H Q → tLc (wi Γ.X tg iter) (wgB Γ.X scope tg) (wtB Γ.X scope ifs) (weB Γ.X scope elt) (own.map (·.2)) σ H Q' := fun k h =>
    wi_mono h fun J H1 z Da hD => by
      obtain ⟨W, w0, t⟩ := z Da hD
      refine ⟨W, w0, fun i m H' w => ?_⟩
      rcases t i m H' w with ⟨q1, q2⟩ | q
      · exact .inl ⟨q1, k _ _ q2⟩
      · exact .inr q
  exact mono (fun v H' ⟨F', d, μ', s, a', r, p, ds, μ0, e, e2, q⟩ => by subst e e2; exact ⟨F', _, _, s, a'.fr_set i r, q p⟩) key
end
end PD
/-! PD84: dicts whose keys are tuples of bools, numbers, texts, None and such tuples, owned. -/
namespace PD
open PySem PySem.Spec PyProof.Rows L2
mutual
def D.nk : D → Option NestedKey
  | .non => some .none
  | .bl b => some (.num (if b = true then 1 else 0))
  | .int i => some (.num i)
  | .str x => some (.text x)
  | .tup ds => (D.nks ds).map .tup
  | _ => none
def D.nks : List D → Option (List NestedKey)
  | [] => some []
  | d :: ds => match D.nk d, D.nks ds with
    | some k, some ks => some (k :: ks)
    | _, _ => none
end
theorem isTup_nested {h : Heap} {a : Addr} {its : List Value} {ks : List NestedKey} (t : IsTup h a its.toArray) (r : NestedAll h ks its) : NestedIs h (.tup ks) (.ref a) := by
  obtain ⟨o, h1, h2, n, h3⟩ := t
  exact .tup h1 h2 h3 (by simpa using r)
section
variable {X : Cx} {pins : List (Addr × Obj)} {σ : L2.St} {H F : Hp} {s : Shared}
mutual
theorem nested_of (I : Inv X pins σ H s) (hs : Same F H) : ∀ (d : D) {k : NestedKey} {v : V} {u : Value}, d.nk = some k → Dp X.K F d v → RelV v u → NestedIs s.heap k u
  | .non, k, v, u, e, r, q => by
    rw [D.nk] at e; cases e; rw [Dp] at r; subst r
    obtain rfl : u = Value.none := q
    exact .none
  | .bl b, k, v, u, e, r, q => by
    rw [D.nk] at e; cases e; rw [Dp] at r; subst r
    obtain rfl : u = Value.bool b := q
    exact .bool rfl
  | .int i, k, v, u, e, r, q => by
    rw [D.nk] at e; cases e; rw [Dp] at r; subst r
    obtain ⟨t, rfl⟩ := (show ∃ t, u = Value.int i t from q)
    exact .int _ _
  | .str x, k, v, u, e, r, q => by
    rw [D.nk] at e; cases e; rw [Dp] at r; subst r
    obtain ⟨t, rfl⟩ := (show ∃ t, u = Value.str x t from q)
    exact .text _ _
  | .tup ds, k, v, u, e, r, q => by
    rw [D.nk] at e
    cases e1 : D.nks ds with
    | none => rw [e1] at e; cases e
    | some ks =>
      rw [e1] at e
      cases e
      obtain ⟨a, vs, rfl, h1, h2⟩ := dpT r
      obtain rfl : u = Value.ref a := q
      obtain ⟨its, rv, t, _⟩ := I.tuple (Same.sqT hs h1)
      exact isTup_nested t (nested_all I hs ds e1 h2 rv)
  | .ty _, _, _, _, e, _, _ => by rw [D.nk] at e; cases e; all_goals (intros; contradiction)
  | .ref _, _, _, _, e, _, _ => by rw [D.nk] at e; cases e; all_goals (intros; contradiction)
  | .lst _, _, _, _, e, _, _ => by rw [D.nk] at e; cases e; all_goals (intros; contradiction)
  | .rl _, _, _, _, e, _, _ => by rw [D.nk] at e; cases e; all_goals (intros; contradiction)
  | .obj _ _ _, _, _, _, e, _, _ => by rw [D.nk] at e; cases e; all_goals (intros; contradiction)
  | .dK _ _, _, _, _, e, _, _ => by rw [D.nk] at e; cases e; all_goals (intros; contradiction)
  | .slc _ _ _, _, _, _, e, _, _ => by rw [D.nk] at e; cases e; all_goals (intros; contradiction)
  | .exv _ _ _, _, _, _, e, _, _ => by rw [D.nk] at e; cases e; all_goals (intros; contradiction)
theorem nested_all (I : Inv X pins σ H s) (hs : Same F H) : ∀ (ds : List D) {ks : List NestedKey} {vs : List V} {us : List Value}, D.nks ds = some ks → Dps X.K F ds vs → Vals vs us → NestedAll s.heap ks us
  | [], ks, vs, us, e, r, q => by
    rw [D.nks] at e; cases e
    obtain rfl := r.unnil
    cases q
    exact .nil
  | d :: ds, ks, vs, us, e, r, q => by
    rw [D.nks] at e
    obtain ⟨v, ws, rfl, r1, r2⟩ := r.uncons
    cases q with
    | cons q1 q2 =>
      cases e1 : D.nk d with
      | none => rw [e1] at e; cases e2 : D.nks ds <;> rw [e2] at e <;> cases e
      | some k =>
        cases e2 : D.nks ds with
        | none => rw [e1, e2] at e; cases e
        | some ks' =>
          rw [e1, e2] at e
          cases e
          exact .cons (nested_of I hs d e1 r1 q1) (nested_all I hs ds e2 r2 q2)
end
end
/-! ### the dict in its cell -/
abbrev NX := List (NestedKey × Addr × Value)
def dNφ (P : Program) (w : World) (p : Addr) (xs : NX) : Heap → Prop := fun h => xs.length ≤ sizeLine ∧ (p == sysModules) = false ∧ (xs.map (·.1)).Nodup ∧
  ∃ o es ep, h.get? p = some o ∧ o.ExactDict ∧ o.data = .dict es ep ∧ es.toList = xs.map (entryOfKey (nestedKind P w))
abbrev Dn := List (D × D)
def NKs (K : PySem.W.Frag) (F : Hp) : Dn → NX → Prop := Paired fun kv x => kv.1.nk = some x.1 ∧ x.1.depth ≤ 8 ∧ Dp K F kv.1 (.ref x.2.1) ∧ ∃ v, Dp K F kv.2 v ∧ RelV v x.2.2
theorem NKs.mono {K : PySem.W.Frag} {F F' : Hp} (e : Same F F') {kvs : Dn} {xs : NX} (h : NKs K F kvs xs) : NKs K F' kvs xs :=
  Paired.mapP h fun _ _ ⟨h1, h2, h3, v, h4, h5⟩ => ⟨h1, h2, h3.mono e, v, h4.mono e, h5⟩
def dN (P : Program) (w : World) (kvs : Dn) : Cell := .raw (fun p K F o => ∃ xs, o = .ext (dNφ P w p xs) ∧ NKs K F kvs xs) fun _ _ _ _ _ e ⟨xs, h1, h2⟩ => ⟨xs, h1, h2.mono e⟩
def findN (kvs : Dn) (k : NestedKey) : Option D := (kvs.find? fun kv => decide (kv.1.nk = some k)).map (·.2)
def putN (kvs : Dn) (d : D) (k : NestedKey) (v : D) : Dn := if (findN kvs k).isSome = true then kvs.map (fun kv => if kv.1.nk = some k then (kv.1, v) else kv) else kvs ++ [(d, v)]
section
variable {K : PySem.W.Frag} {F : Hp}
theorem NKs.find (k : NestedKey) {kvs : Dn} {xs : NX} (h : NKs K F kvs xs) : (findN kvs k = none ∧ atKey xs k = none) ∨ ∃ d p v, findN kvs k = some d ∧ atKey xs k = some p ∧ Dp K F d v ∧ RelV v p.2 := by
  unfold NKs at h
  induction h with
  | nil => exact .inl ⟨rfl, rfl⟩
  | @cons p q ps qs r t ih =>
    obtain ⟨h1, h2, h3, v, h4, h5⟩ := r
    by_cases e : q.1 = k
    · refine .inr ⟨p.2, q.2, v, ?_, ?_, h4, h5⟩
      · simp [findN, List.find?_cons, h1, e]
      · simp [atKey, List.find?_cons, e]
    · have e1 : findN (p :: ps) k = findN ps k := by simp [findN, List.find?_cons, h1, e]
      have e2 : atKey (q :: qs) k = atKey qs k := by simp [atKey, List.find?_cons, e]
      rw [e1, e2]
      exact ih
theorem NKs.isSome (k : NestedKey) {kvs : Dn} {xs : NX} (h : NKs K F kvs xs) : (findN kvs k).isSome = (atKey xs k).isSome := by
  rcases h.find k with ⟨e1, e2⟩ | ⟨d, p, v, e1, e2, _⟩ <;> rw [e1, e2] <;> rfl
theorem NKs.snoc {kvs : Dn} {xs : NX} (h : NKs K F kvs xs) {p : D × D} {q : NestedKey × Addr × Value} (r : p.1.nk = some q.1 ∧ q.1.depth ≤ 8 ∧ Dp K F p.1 (.ref q.2.1) ∧ ∃ v, Dp K F p.2 v ∧ RelV v q.2.2) : NKs K F (kvs ++ [p]) (xs ++ [q]) := Paired.snoc h r
theorem NKs.repl {kvs : Dn} {xs : NX} (h : NKs K F kvs xs) (k : NestedKey) {d : D} {v : V} {u : Value} (r : Dp K F d v) (ru : RelV v u) : NKs K F (kvs.map fun kv => if kv.1.nk = some k then (kv.1, d) else kv) (xs.map (putAt k u)) := by
  unfold NKs at h ⊢
  induction h with
  | nil => exact .nil
  | @cons p q ps qs z t ih =>
    rw [List.map_cons, List.map_cons]
    refine .cons ?_ ih
    obtain ⟨h1, h2, h3, v', h4, h5⟩ := z
    unfold putAt
    by_cases e : q.1 = k
    · rw [if_pos (by rw [h1, e]), if_pos e]; exact ⟨h1, h2, h3, v, r, ru⟩
    · rw [if_neg (fun z => e (Option.some.inj (h1.symm.trans z))), if_neg e]; exact ⟨h1, h2, h3, v', h4, h5⟩
theorem NKs.put {kvs : Dn} {xs : NX} (h : NKs K F kvs xs) {kd : D} {k : NestedKey} {a : Addr} {d : D} {v : V} {u : Value} (hk : kd.nk = some k) (hd : k.depth ≤ 8) (ra : Dp K F kd (.ref a)) (r : Dp K F d v) (ru : RelV v u) :
    NKs K F (putN kvs kd k d) (storedH xs k a u) := by
  unfold putN storedH
  rw [h.isSome k]
  split
  · exact h.repl k r ru
  · exact h.snoc ⟨hk, hd, ra, v, r, ru⟩
theorem length_storedH (xs : NX) (k : NestedKey) (a : Addr) (u : Value) : (storedH xs k a u).length ≤ xs.length + 1 := by
  unfold storedH; split
  · rw [List.length_map]; omega
  · rw [List.length_append]; exact Nat.le_refl _
end
section
variable {X : Cx} {pins : List (Addr × Obj)} {σ : L2.St} {H F : Hp} {s : Shared} {p : Addr} {kvs : Dn} {xs : NX}
theorem NKs.is (I : Inv X pins σ H s) (hs : Same F H) {kvs : Dn} {xs : NX} (h : NKs X.K F kvs xs) : ∀ x ∈ xs, (nestedKind X.prog X.w).is s.heap x.1 x.2.1 := by
  unfold NKs at h
  induction h with
  | nil => intro x hx; cases hx
  | @cons a b as bs r t ih =>
    obtain ⟨h1, h2, h3, _⟩ := r
    intro x hx
    rcases List.mem_cons.mp hx with e | hx
    · subst e; exact ⟨nested_of I hs _ h1 h3 rfl, h2⟩
    · exact ih x hx
theorem dictOf_N (I : Inv X pins σ H s) (hs : Same F H) (hp : H p = some (.ext (dNφ X.prog X.w p xs))) (hk : NKs X.K F kvs xs) : xs.length ≤ sizeLine ∧ (p == sysModules) = false ∧ s.heap.DictOfH (nestedKind X.prog X.w) p xs := by
  obtain ⟨⟨z, hd, nd, o, es, ep, h1, h2, h3, h4⟩, _⟩ := (show ObjOk X.prog X.w H s.heap p (.ext (dNφ X.prog X.w p xs)) from I.hok _ _ hp)
  exact ⟨z, hd, o, es, ep, h1, h2, h3, h4, hk.is I hs, nd⟩
theorem dNφ_new {P : Program} {w : World} {H' : Hp} {h' : Heap} (z : xs.length ≤ sizeLine) (hd : (p == sysModules) = false) (dd : h'.DictOfH (nestedKind P w) p xs) : ObjOk P w H' h' p (.ext (dNφ P w p xs)) := by
  obtain ⟨o, es, ep, h1, h2, h3, h4, _, nd⟩ := dd
  exact ⟨⟨z, hd, nd, o, es, ep, h1, h2, h3, h4⟩, ⟨o, h1⟩, fun g1 g2 ⟨_, _, _, o', es', ep', k1, k2, k3, k4⟩ st => ⟨z, hd, nd, o', es', ep', st _ k1, k2, k3, k4⟩⟩
end
theorem NKs.keys {K : PySem.W.Frag} {F : Hp} {kvs : Dn} {xs : NX} (h : NKs K F kvs xs) : Dps K F (kvs.map (·.1)) (xs.map fun x => V.ref x.2.1) := by
  unfold NKs at h
  induction h with
  | nil => exact Dps.nil
  | cons r t ih => rw [List.map_cons, List.map_cons]; exact Dps.cons r.2.2.1 ih
section
variable {prog : Program} {w : World} {K : Type} [DecidableEq K] {knd : HeapKind prog w K} {A : Around} {E : Value → Shared → Prop} {s : Shared}
theorem dict_pairsX {env : Env} {keys : List (Option Expr)} {values : List Expr} {pos : Pos} {pairs : List (Sem Value × Sem Value)} {Q : Value → Shared → Prop} (hu : knd.room A)
    (hshape : (evalEachOpt keys env).zip ((evalEach values env).map fun v => do let x ← v; standAt pos; pure x) = pairs.map fun p => (some p.1, p.2)) (h0 : pairs ≠ []) (hlen : pairs.length ≤ 15)
    (h : wpAny (model prog w) A (evalPairs pairs) (fun vs s₁ => ∃ ps, CarriesH knd s₁.heap vs ps ∧ s₁.heap.DictOfH knd s.heap.objs.size [] ∧
      ∀ h' tk, h'.DictOfH knd s.heap.objs.size (storedAllH [] ps) → Heap.SameBut s.heap.objs.size s₁.heap h' → Q (.ref s.heap.objs.size) { s₁ with heap := h', toks := tk }) E
      { s with heap := s.heap.push { cls := .type "dict", data := .dict #[] } }) :
    wpAny (model prog w) A (eval (.Dict keys values pos) env) Q E s := by
  rw [arm_eval_Dict, hshape, dictDisplay_pairs pairs h0 (by omega)]
  exact wpAny_bind (wpAny_standAt (wpAny_bind (wpAny_subDictH (knd := knd) (Q := fun d s' => wpAny (model prog w) A (pure (Value.ref d)) Q E s') hu hlen
    (wpAny_mono h (fun vs s₁ h₁ => by obtain ⟨ps, hc, hm, hq⟩ := h₁; exact ⟨ps, hc, hm, fun h' tk a b => wpAny_pure (hq h' tk a b)⟩) fun _ _ e => e))))
end
/-- {k: v, ..} with keys that are tuples -/
def tDispN (X : Cx) (trs : List (TE × TE)) : TE := fun σ H Q => ∀ p, H p = none → tPairs trs σ (upd H p (.ext (dNφ X.prog X.w p []))) fun ps H2 => H2 p = some (.ext (dNφ X.prog X.w p [])) ∧
  ∀ pins s ws, Inv X pins σ H2 s → VV ps ws → ∃ xs, CarriesH (nestedKind X.prog X.w) s.heap ws xs ∧ xs.length ≤ 15 ∧ Q (.ref p) (upd H2 p (.ext (dNφ X.prog X.w p (storedAllH [] xs))))
theorem dn_empty {P : Program} {w : World} {H : Hp} (h : Heap) (hb : sysModules < h.objs.size) : ObjOk P w H (h.push { cls := .type "dict", data := .dict #[] }) h.objs.size (.ext (dNφ P w h.objs.size [])) :=
  dNφ_new (Nat.zero_le _) (beq_eq_false_iff_ne.mpr (Ne.symm (Nat.ne_of_lt hb))) (Heap.DictOfH.new h)
theorem length_storedAllH : ∀ (ps xs : NX), (storedAllH xs ps).length ≤ xs.length + ps.length
  | [], xs => by show xs.length ≤ _; omega
  | p :: ps, xs => by
    have h1 := length_storedAllH ps (storedH xs p.1 p.2.1 p.2.2)
    have h2 := length_storedH xs p.1 p.2.1 p.2.2
    show (storedAllH (storedH xs p.1 p.2.1 p.2.2) ps).length ≤ _
    rw [List.length_cons]; omega
theorem pe_dispN {X : Cx} {pos : Pos} {keys : List (Option Expr)} {values : List Expr} {trs : List (TE × TE)} (hu : X.A.units + 64 < cLine) (h : PPs X pos keys values trs) (hall : keys.all (·.isSome) = true) (hl : keys.length = values.length) (h0 : keys ≠ [])
    (h15 : keys.length ≤ 15) : PE X (.Dict keys values pos) (tDispN X trs) := by
  refine ⟨fun pins s σ H Q I q => ?_⟩
  have hn := I.hok.fresh (Nat.le_refl s.heap.objs.size)
  have I1 := I.laid (a := s.heap.objs.size) (o := .ext (dNφ X.prog X.w s.heap.objs.size [])) (h' := s.heap.push { cls := .type "dict", data := .dict #[] }) (t' := s.toks) (fun _ _ q => Heap.get?_push_of_some _ q) (Nat.le_refl _) (dn_empty s.heap I.big)
  have hnl := pairTrees_length keys values X.env pos hall hl
  refine dict_pairsX (knd := nestedKind X.prog X.w) (pairs := pairTrees keys values X.env pos) (by show X.A.units + 8 < cLine; omega) (zip_pairTrees keys values X.env pos hall hl) (fun he => ?_) (by rw [hnl]; exact h15) (thn (h.run pins _ σ _ _ I1 (q _ hn)) fun ws s2 ⟨ps, H2, I2, rel, e, q2⟩ => ?_)
  · rw [he] at hnl; exact h0 (List.length_eq_zero_iff.mp hnl.symm)
  obtain ⟨xs, c, hx, q3⟩ := q2 _ _ _ I2 rel
  obtain ⟨z, hd, dd⟩ := dictOf_N (F := fun _ => none) (kvs := []) I2 (fun _ _ z => nomatch z) e .nil
  refine ⟨xs, c, dd, fun h' tk dd' hs => ⟨.ref s.heap.objs.size, _, ?_, rfl, q3⟩⟩
  have hz : (storedAllH [] xs).length ≤ sizeLine := by
    have h1 := length_storedAllH xs []
    rw [List.length_nil] at h1
    rw [sizeLine_eq]; omega
  have he : ∃ q, h'.get? s.heap.objs.size = some q := let ⟨q, _, _, hq, _⟩ := dd'; ⟨q, hq⟩
  exact d_write I2 (by rw [e]; exact True.intro) hs he (dNφ_new hz hd dd')
/-! ### the rules -/
section
variable {Γ : Ct} {δ : Dl} {μ μ1 μ2 : Mu} {Q : D → Mu → Prop} {p : Addr} {kvs : Dn} {ds : List D} {k : NestedKey} {P : Program} {w : World} {pos : Pos}
theorem cell_dN {F H : Hp} {σ : L2.St} (a : At Γ F δ μ σ H) (h : (p, dN P w kvs) ∈ μ) : ∃ xs, H p = some (.ext (dNφ P w p xs)) ∧ NKs Γ.X.K F kvs xs := by
  obtain ⟨o, h1, xs, rfl, h2⟩ := a.sx.cells _ h
  exact ⟨xs, h1, h2⟩
theorem opd_inN (hu : Γ.X.A.units + 64 < cLine) (hm : (p, dN P w kvs) ∈ μ) (hk : (D.tup ds).nk = some k) (hd : k.depth ≤ 8) (q : Q (.bl (findN kvs k).isSome) μ) (hP : P = Γ.X.prog := by rfl) (hw : w = Γ.X.w := by rfl) : opd Γ (compareOp .In) (.tup ds) (.ref p) δ μ Q := fun F σ H vx vy a r1 r2 pins s σ' v u I q1 q2 => by
  subst hP hw
  obtain ⟨xs, h1, h2⟩ := cell_dN a hm
  obtain ⟨b, vs, e, h3⟩ := dpT r1
  have e2 := dpR r2
  subst e e2
  obtain rfl : v = Value.ref b := q1
  obtain rfl : u = Value.ref p := q2
  obtain ⟨z, hs, dd⟩ := dictOf_N I a.sx.sub h1 h2
  refine wpAny_in_heap (knd := nestedKind Γ.X.prog Γ.X.w) (k := k) (by show Γ.X.A.units + 1 + 8 < cLine; omega) ⟨nested_of I a.sx.sub _ hk r1 rfl, hd⟩ hs dd ?_
  rw [← h2.isSome k]
  exact ⟨.bl _, H, I.tok _, rfl, PostE.here a dpb q⟩
theorem std_N {v : D} {R : Mu → Prop} (hu : Γ.X.A.units + 64 < cLine) (hl : kvs.length < sizeLine) (hk : (D.tup ds).nk = some k) (hd : k.depth ≤ 8) (q : R (μ1 ++ (p, dN P w (putN kvs (.tup ds) k v)) :: μ2)) (hP : P = Γ.X.prog := by rfl) (hw : w = Γ.X.w := by rfl) : std Γ (.ref p) (.tup ds) v δ (μ1 ++ (p, dN P w kvs) :: μ2) R := fun F σ H vx vy vv a r1 r2 r3 pins s σ' ov iv u I p1 p2 p3 => by
  subst hP hw
  obtain ⟨xs, h1, h2⟩ := cell_dN a mem_mid
  have e2 := dpR r1
  obtain ⟨b, vs, e, h3⟩ := dpT r2
  subst e e2
  obtain rfl : ov = Value.ref p := p1
  obtain rfl : iv = Value.ref b := p2
  obtain ⟨z, hs, dd⟩ := dictOf_N I a.sx.sub h1 h2
  have hl2 : (storedH xs k b u).length ≤ sizeLine := by have := length_storedH xs k b u; have := Paired.length h2; omega
  refine wpAny_setItem_heap (knd := nestedKind Γ.X.prog Γ.X.w) (k := k) (hsz := z) (by show Γ.X.A.units + 1 + 8 < cLine; omega) ⟨nested_of I a.sx.sub _ hk r2 rfl, hd⟩ dd fun h' dd' sb => ?_
  exact ⟨_, d_write I (by rw [h1]; exact True.intro) sb (let ⟨q, _, _, hq, _⟩ := dd'; ⟨q, hq⟩) (dNφ_new hl2 hs dd'), F, _, Same.refl F, a.put (c' := dN Γ.X.prog Γ.X.w (putN kvs (.tup ds) k v)) ⟨_, upd_same, _, rfl, h2.put hk hd r2 r3 p3⟩, q⟩
theorem cld_len_N (hm : (p, dN P w kvs) ∈ μ) (q : Q (.int (kvs.length : Nat)) μ) (hP : P = Γ.X.prog := by rfl) (hw : w = Γ.X.w := by rfl) : cld Γ (.builtin "len") [.ref p] δ μ Q := fun F σ H vs a r0 pins s σ' us I q1 => by
  subst hP hw
  obtain ⟨xs, h1, h2⟩ := cell_dN a hm
  obtain ⟨v, rfl, r1⟩ := r0.one
  have e := dpR r1
  subst e
  obtain ⟨u, rfl, ru⟩ := q1.one
  obtain rfl : u = Value.ref p := ru
  obtain ⟨z, hs, dd⟩ := dictOf_N I a.sx.sub h1 h2
  have hl := Paired.length h2
  refine call_len_dictH hs dd (by rw [sizeLine_eq] at z; omega) ?_
  rw [← hl]
  exact ⟨.int (kvs.length : Nat), H, I.tok _, ⟨_, rfl⟩, PostE.here a (d := .int (kvs.length : Nat)) (by rw [Dp]) q⟩
theorem cld_list_N (hm : (p, dN P w kvs) ∈ μ) (q : Q (.lst (kvs.map (·.1))) μ) (hc : Γ.X.calm = true := by rfl) (hP : P = Γ.X.prog := by rfl) (hw : w = Γ.X.w := by rfl) : cld Γ (.type "list") [.ref p] δ μ Q := fun F σ H vs a r0 pins s σ' us I q1 => by
  subst hP hw
  obtain ⟨xs, h1, h2⟩ := cell_dN a hm
  obtain ⟨v, rfl, r1⟩ := r0.one
  have e := dpR r1
  subst e
  obtain ⟨u, rfl, ru⟩ := q1.one
  obtain rfl : u = Value.ref p := ru
  obtain ⟨z, hs, dd⟩ := dictOf_N I a.sx.sub h1 h2
  obtain ⟨o, es, ep, ho, hx, hdt, he, _, hn⟩ := dd
  have l1 : es.size = xs.length := size_of_entries he
  refine PySem.W.kdl_call (kdl_raw hs hx hdt) (I.ok.hd hc) ho (by omega) fun h' tk acc' c' kp e it => ?_
  have ea : acc'.toList = xs.map fun x => Value.ref x.2.1 := by
    have hl : acc'.toList.length = xs.length := by rw [Array.length_toList, it.1]; exact l1
    apply List.ext_getElem?
    intro j
    rw [List.getElem?_map]
    cases hj : acc'.toList[j]? with
    | none =>
      have h1 := List.getElem?_eq_none_iff.mp hj
      rw [List.getElem?_eq_none (by omega)]
      all_goals rfl
    | some v =>
      obtain ⟨en, hen, hv⟩ := it.2 j v (by rw [← Array.getElem?_toList]; exact hj)
      have qe := entry_at he j
      rw [hen] at qe
      cases hb : xs[j]? with
      | none =>
        rw [hb] at qe
        exact nomatch (show some en = none from qe)
      | some b =>
        rw [hb] at qe
        have e2 : en = entryOfKey (nestedKind Γ.X.prog Γ.X.w) b := Option.some.inj qe
        rw [hv, e2]
        all_goals rfl
  have eb : acc'.toList = (xs.map fun x => x.2.1).map Value.ref := by rw [ea, List.map_map]; all_goals rfl
  have rv : Vals ((xs.map fun x => x.2.1).map V.ref) acc'.toList := by rw [eb]; exact vals_refs _
  have hz : ((xs.map fun x => x.2.1).map V.ref).length ≤ sizeLine := by rw [List.length_map, List.length_map]; omega
  have hp := I.hok.fresh (Nat.le_refl s.heap.objs.size)
  refine ⟨.ref s.heap.objs.size, _, I.laid (t' := tk) (o := .lst ((xs.map fun x => x.2.1).map V.ref)) kp (Nat.le_refl _) ?_, rfl, ?_⟩
  · exact ⟨hz, acc'.toList, c', rv, by rw [Array.toArray_toList]; exact e⟩
  · refine PostE.new a hp (dpl upd_same ?_) q
    rw [List.map_map]
    exact h2.keys.mono (same_upd (a.sx.sub.free hp))
/-- {e: v} -/
theorem ed_dispN1 {e v : Expr} (hu : Γ.X.A.units + 64 < cLine) (h : ∀ p, ed Γ e δ ((p, dN P w []) :: μ) fun kd μ1 => ∃ ds key, kd = .tup ds ∧ (D.tup ds).nk = some key ∧ key.depth ≤ 8 ∧ ed Γ v δ μ1 fun d μ2 => ∃ μa μb, μ2 = μa ++ (p, dN P w []) :: μb ∧ Q (.ref p) (μa ++ (p, dN P w [(.tup ds, d)]) :: μb)) (hP : P = Γ.X.prog := by rfl) (hw : w = Γ.X.w := by rfl) : ed Γ (.Dict [some e] [v] pos) δ μ Q := fun F σ H a => by
  subst hP hw
  refine we_of (pe_dispN hu (pps_of rfl rfl) rfl rfl (by simp) (by simp)) ?_
  intro p hp
  have a0 := a.own (c := dN Γ.X.prog Γ.X.w []) (o := .ext (dNφ Γ.X.prog Γ.X.w p [])) hp ⟨_, upd_same, [], rfl, .nil⟩
  show we Γ.X e σ _ _
  refine we_mono (h p F σ _ a0) fun x H1 h1 => ?_
  obtain ⟨F1, kd, μ1, s1, a1, r1, ds, key, rfl, hk, hd, hv⟩ := h1
  refine we_mono (hv F1 σ H1 a1) fun y H2 h2 => ?_
  obtain ⟨F2, d, μ2, s2, a2, r2, μa, μb, rfl, q⟩ := h2
  obtain ⟨xs0, e0, k0⟩ := cell_dN a2 (p := p) (kvs := []) (P := Γ.X.prog) (w := Γ.X.w) mem_mid
  cases k0
  obtain ⟨b, vs, ex, h3⟩ := dpT r1
  subst ex
  refine ⟨e0, fun pins s ws I rv => ?_⟩
  cases rv with
  | @cons p1 q1 ps1 qs1 rr tt =>
    cases tt
    obtain ⟨u1, u2⟩ := q1
    obtain ⟨e1, e2⟩ := rr
    obtain rfl : u1 = Value.ref b := e1
    refine ⟨[(key, b, u2)], ⟨rfl, rfl, ⟨nested_of I a2.sx.sub _ hk (r1.mono s2) rfl, hd⟩, True.intro⟩, by simp, ?_⟩
    refine ⟨F2, .ref p, _, s1.trans s2, a2.put (c' := dN Γ.X.prog Γ.X.w [(.tup ds, d)]) ⟨_, upd_same, [(key, b, u2)], rfl, .cons ⟨hk, hd, r1.mono s2, y, r2, e2⟩ .nil⟩, dpr, q⟩
end
end PD
/-! PD85: calls of defs with keyword-only parameters, by their names. -/
namespace PD
open PySem PySem.Spec PyProof.Rows L2
/-- a def with n parameters by place, and those of the names ks behind them, by name alone -/
structure CallK (P : Program) (w : World) (K : PySem.W.Frag) (mg : Str → Option Value) (base : Heap) (k : Nat) (f : Addr) (n : Nat) (ks : List Str) (sp : SpD) : Prop where
  at_ : ∀ b : Md, ∃ fd ps, KBn K fd ps n ks (fun us ws => us ++ ws) (fun vs zs => vs ++ zs) ∧ ps.length = n + ks.length ∧ FnD b P w K mg base k f fd ps sp
  kp : PySem.W.keepIn K (.ref f) = true
theorem CallK.mk0 {P : Program} {w : World} {K : PySem.W.Frag} {mg : Str → Option Value} {base : Heap} {k : Nat} {f : Addr} {sp : SpD} {x qual : Str} {params : Arguments} {body : List Stmt} {scope : Scope} {kws : List (Str × V)} {fd : FuncData} {ps : List Str} (n : Nat) (ks : List Str) (F : FunD K x qual params body scope [] kws f fd) (hk : kws ≠ []) (hl : ps.length = n + ks.length)
    (h : ∀ (D : Addr) (doc pm : Value) (an : Option Addr) (cdv ct : Value) (us ws : List Value), us.length = n → ws.length = ks.length → bindArgs (PySem.W.fnOf x qual params body scope .none (.ref D) doc pm an cdv ct) ⟨us, ks.zip ws⟩ = pure (ps.zip (us ++ ws)))
    (G : ∀ {b : Md}, FnD b P w K mg base k f fd ps sp) : CallK P w K mg base k f n ks sp := by
  obtain ⟨mv, hb⟩ := F.kbinds0 n ks [] (g := fun us _ ws => us ++ ws) hk (fun _ z => by cases z) (fun r1 _ r3 => r1.append r3) (fun D doc pm an cdv ct us mv ws l1 _ l3 => by
    show bindArgs _ _ = pure _
    exact h D doc pm an cdv ct us ws l1 l3)
  exact ⟨fun b => ⟨fd, ps, hb, hl, G⟩, F.kp⟩
/-- f(e, ..): the keyword-only ones lack -/
theorem CallD.mkK {P : Program} {w : World} {K : PySem.W.Frag} {mg : Str → Option Value} {base : Heap} {k : Nat} {f : Addr} {sp : SpD} {x qual : Str} {params : Arguments} {body : List Stmt} {scope : Scope} {kws : List (Str × V)} {fd : FuncData} {ps : List Str} (n : Nat) (F : FunD K x qual params body scope [] kws f fd) (hk : kws ≠ []) (hn : n + kws.length = ps.length) (dds : List D) (hdd : DfD K dds (kws.map (·.2)))
    (h : ∀ (D : Addr) (doc pm : Value) (an : Option Addr) (cdv ct : Value) (us ks : List Value), us.length = n → ks.length = kws.length →
      KwChain D ((kws.map (·.1)).zip ks) (bindArgs (PySem.W.fnOf x qual params body scope .none (.ref D) doc pm an cdv ct) ⟨us, []⟩) (ps.zip (us ++ ks)))
    (G : ∀ {b : Md}, FnD b P w K mg base k f fd ps sp) : CallD P w K mg base k f ps.length dds sp := by
  obtain ⟨ds, v, b⟩ := F.binds0 n hk hn h
  exact ⟨fun _ => ⟨⟨fd, ps, _, ds, rfl, b, v, hdd, G⟩, F.kp⟩⟩
section
variable {X : Cx} {b : Md} {k n : Nat} {f : Addr} {fd : FuncData} {ps ks : List Str} {sp : Sp} {x : Str} {p pos : Pos} {e : Expr} {es : List Expr} {kws : List Keyword} {t tk : TA} {g : List Value → List Value → List Value} {gV : List V → List V → List V} {E : L2.St → XK}
def tCallSK (n m : Nat) (sp : Sp) (gV : List V → List V → List V) (E : L2.St → XK) (t tk : TA) : TE := fun σ H Q => t σ H fun vs H1 => tk σ H1 fun zs H2 => vs.length = n ∧ zs.length = m ∧ sp (gV vs zs) H2 Q (E σ)
theorem run_fnSK {pins : List (Addr × Obj)} {σ : L2.St} {H : Hp} {s : Shared} {Q : VK} {us ws : List Value} {vs zs : List V} (G : FnOk X.prog X.w X.K X.mg X.base b k f fd ps sp) (hr : Room k X.A) (hb : KBn X.K fd ps n ks g gV) (hx : PassesAt (CXB b X.prog X.w) X σ (E σ))
    (I : Inv X pins σ H s) (r : Vals vs us) (rz : Vals zs ws) (l1 : vs.length = n) (l2 : zs.length = ks.length) (h : sp (gV vs zs) H Q (E σ)) : wpAny (model X.prog X.w) X.A (call (.ref f) us (ks.zip ws)) (EP X pins σ Q) X.xe s := by
  have rr := hb.rel r rz
  refine wpAny_call (codeAny_mono (G.run X.A X.stack s H ⟨us, ks.zip ws⟩ (g us ws) (gV vs zs) Q (E σ) hr I.env0 (hb.to s us ws I.kIn (r.length.symm.trans l1) (rz.length.symm.trans l2)) rr h) fun res s' z => ?_)
  match res, z with
  | .error er, z => exact hx pins H s er s' I z
  | .ok (.ret u), z => exact I.after z
theorem pe_callSK (G : FnOk X.prog X.w X.K X.mg X.base b k f fd ps sp) (hr : Room k X.A) (hg : Gl X x) (hm : X.mg x = some (.ref f)) (hk : PySem.W.keepIn X.K (.ref f) = true) (hb : KBn X.K fd ps n ks g gV) (hx : ∀ σ, PassesAt (CXB b X.prog X.w) X σ (E σ))
    (ha : PA X (e :: es) t) (hkw : PK X kws tk) (hall : (backToKw pos (keywordEach kws X.env)).all (·.1.isSome) = true := by rfl) (hks : (backToKw pos (keywordEach kws X.env)).filterMap (·.1) = ks := by rfl)
    (hdb : (x == ("__debug__" : Str)) = false := by decide) (he : starEach (e :: es) X.env = (false, eval e X.env) :: starEach es X.env := by rfl)
    (hpl : ((backTo pos (starEach (e :: es) X.env)).any (·.1) || (backToKw pos (keywordEach kws X.env)).any (·.1.isNone)) = false := by rfl) :
    PE X (.Call (.Name x p) (e :: es) kws pos) (tCallSK n ks.length sp gV E t tk) := by
  refine ⟨fun pins s σ H Q I h => ?_⟩
  refine wpAny_Call_Name_kw (ld_glob I hg hm ?_ hdb)
  refine PySem.W.callWith_KW (h₀ := X.base) I.ok.mod.kin hk hall (thn (ha.run pos pins s σ H _ I h) fun us s1 ⟨vs, H1, I1, r, q⟩ => ?_) hpl he
  refine thn (hkw.run pos pins s1 σ H1 _ I1 q) fun ws s2 ⟨zs, H2, I2, rz, l1, l2, q2⟩ => ⟨I2.kIn, ?_⟩
  rw [hks]
  exact run_fnSK G hr hb (hx σ) I2 r rz l1 l2 q2
end
section
variable {Γ : Ct} {δ : Dl} {μ : Mu} {Q : D → Mu → Prop} {pos kpos : Pos} {k j n : Nat} {f : Addr} {sp : SpD} {x nm : Str} {p : Pos} {e v : Expr} {es : List Expr}
/-- f(e, .., nm = v) -/
theorem ed_callKw (Cd : CallK Γ.X.prog Γ.X.w Γ.X.K Γ.X.mg Γ.X.base k f n [nm] sp) (hr : Room j Γ.X.A) (hkj : k ≤ j) (hm : Γ.X.mg x = some (.ref f))
    (h : ea Γ (e :: es) δ μ fun ds μ1 => ed Γ v δ μ1 fun z μ2 => ds.length = n ∧ sp (ds ++ [z]) μ2 Q fun cls ns xs μ' => Γ.W cls ns xs δ μ') (hg : Gl Γ.X x := by rfl)
    (hdb : (x == ("__debug__" : Str)) = false := by decide +kernel) (he : starEach (e :: es) Γ.X.env = (false, eval e Γ.X.env) :: starEach es Γ.X.env := by rfl)
    (hall : (backToKw pos (keywordEach [⟨some nm, v, kpos⟩] Γ.X.env)).all (·.1.isSome) = true := by rfl) (hks : (backToKw pos (keywordEach [⟨some nm, v, kpos⟩] Γ.X.env)).filterMap (·.1) = [nm] := by rfl)
    (hpl : ((backTo pos (starEach (e :: es) Γ.X.env)).any (·.1) || (backToKw pos (keywordEach [⟨some nm, v, kpos⟩] Γ.X.env)).any (·.1.isNone)) = false := by rfl) :
    ed Γ (.Call (.Name x p) (e :: es) [⟨some nm, v, kpos⟩] pos) δ μ Q := fun F σ H a => by
  obtain ⟨fd, ps, hb, hl, G⟩ := Cd.at_ Γ.nn
  refine we_of (pe_callSK (E := fun σ cls dx H' => WofD Γ.X.K Γ.F0 Γ.μ0 Γ.H0 Γ.W cls dx σ H') G (hr.mono hkj) hg hm Cd.kp hb (fun σ => passAt Γ.tk σ) pa_wa (pk_cons pe_we pk_nil) hall hks hdb he hpl) ?_
  refine wa_mono (h F σ H a) fun vs H1 ⟨F1, ds, μ1, s1, a1, r1, q⟩ => ?_
  show we Γ.X v σ H1 _
  refine we_mono (q F1 σ H1 a1) fun y H2 ⟨F2, z, μ2, s2, a2, r2, hn, q2⟩ => ?_
  refine ⟨(r1.length.symm.trans hn), rfl, ?_⟩
  obtain ⟨F3, μ3, ds3, Qd, Ed, b1, b2, b3, b4, b5, b6⟩ := spOf_at (K := Γ.X.K) (n := ps.length) (sp := sp) rfl a2 ((r1.mono s2).append (Dps.cons r2 Dps.nil)) (by rw [List.length_append, hn, hl]; rfl) q2
  exact ⟨F3, μ3, ds3, Qd, Ed, b1, b2, b3, b4, fun v H' F' μ' d c1 c2 c3 c4 => (b5 v H' F' μ' d c1 c2 c3 c4).up (s1.trans s2), b6⟩
end
end PD
/-! PD86: comprehensions of three clauses. -/
namespace L2
open PySem PySem.Spec PyProof.Rows
section
variable {prog : Program} {w : World} {A : Around} {R : Result → Shared → Prop} {s : Shared} {elt t0 i0 t1 i1 t2 i2 : Expr} {gs : List Comprehension} {d : Nat} {ifs0 ifs1 ifs2 : List Expr} {scope : Scope} {pos : Pos} {it acc : Value} {env : Env}
/-- a clause with another behind it -/
theorem compLoop_out (ht : compTurn (.ListComp elt gs scope pos) d it acc env = (do
      standAt i0.pos
      match ← pyNext it with
      | none => pure (.done .next)
      | some v =>
        letOwnedTupleGo t0 it v
        assign t0 env v
        let mut ok := true
        for c in ifs0 do
          if ok then ok ← isTrue c env (eval c env)
        if ok then
          let x ← eval i1 env
          standAt i1.pos
          let x ← foldedSetIterable i1 env x
          let _ ← runOwn (.compStart (.ListComp elt gs scope pos) (d + 1) (← holding [x] (pyIter x)) acc env) env
        again (.compLoop (.ListComp elt gs scope pos) d it acc env))) (hs : ∀ x, foldedSetIterable i1 env x = pure x) (I : Nat → Shared → Prop)
    (turn : ∀ n s, I n s → wpAny (model prog w) A (pyNext it) (fun r s₁ => match r with
      | none => R (.ok .next) s₁
      | some v => wpAny (model prog w) A (letOwnedTupleGo t0 it v) (fun _ s₁' => wpAny (model prog w) A (assign t0 env v) (fun _ s₂ =>
          wpAny (model prog w) A (forIn ifs0 true fun c r => if r = true then do let ok ← isTrue c env (eval c env); pure (ForInStep.yield ok) else pure (ForInStep.yield r)) (fun ok s₃ =>
            if ok = true then wpAny (model prog w) A (eval i1 env) (fun x s₄ => wpAny (model prog w) A (pyIter x) (fun it1 s₅ =>
              codeAny (model prog w) A (.compStart (.ListComp elt gs scope pos) (d + 1) it1 acc env) (fun r s' => match r with
                | .ok _ => ∃ m, m < n ∧ I m s'
                | .error _ => False) s₅) (notedBy (model prog w) A env fun e s' => R (.error e) s') s₄) (notedBy (model prog w) A env fun e s' => R (.error e) s') s₃
            else ∃ m, m < n ∧ I m s₃) (notedBy (model prog w) A env fun e s' => R (.error e) s') s₂) (notedBy (model prog w) A env fun e s' => R (.error e) s') s₁') (notedBy (model prog w) A env fun e s' => R (.error e) s') s₁) (notedBy (model prog w) A env fun e s' => R (.error e) s') s)
    (n : Nat) (h : I n s) :
    codeAny (model prog w) A (.compLoop (.ListComp elt gs scope pos) d it acc env) R s := by
  refine codeAny_loop rfl I (fun n s hI => ?_) n h
  show wpAny _ A ((compTurn (.ListComp elt gs scope pos) d it acc env).onRaise (fun x => do noteFrame x env; theTreesLotGoes x)) _ _ s
  refine wpAny_noted ?_
  rw [ht]
  refine wpAny_bind (wpAny_standAt (wpAny_bind (wpAny_mono (turn n s hI) (fun r s₁ h₁ => ?_) fun _ _ h' => h')))
  cases r with
  | none => exact wpAny_pure h₁
  | some v =>
    refine wpAny_bind (wpAny_mono h₁ (fun _ s₁' h₁' => ?_) fun _ _ h' => h')
    refine wpAny_bind (wpAny_mono h₁' (fun _ s₂ h₂ => wpAny_bind (wpAny_mono h₂ (fun ok s₃ h₃ => ?_) fun _ _ h' => h')) fun _ _ h' => h')
    cases ok with
    | false => exact wpAny_pure ⟨rfl, h₃⟩
    | true =>
      refine wpAny_bind (wpAny_mono h₃ (fun x s₄ h₄ => ?_) fun _ _ h' => h')
      refine wpAny_bind (wpAny_standAt (wpAny_bind (wpAny_of_eq (hs x) (wpAny_bind (wpAny_holding (wpAny_mono h₄ (fun it1 s₅ h₅ => ?_) fun _ _ h' => h'))))))
      refine wpAny_bind (wpAny_runOwn ?_)
      rw [Around.mark_none]
      refine codeAny_mono h₅ fun r s' hr => ?_
      cases r with
      | ok f =>
        first
          | exact wpAny_pure ⟨rfl, hr⟩
          | exact wpAny_bind (wpAny_pure (wpAny_pure ⟨rfl, hr⟩))
      | error e => exact hr.elim
/-- the last clause -/
theorem compLoop_in (ht : compTurn (.ListComp elt gs scope pos) d it acc env = (do
      standAt i1.pos
      match ← pyNext it with
      | none => pure (.done .next)
      | some v =>
        letOwnedTupleGo t1 it v
        assign t1 env v
        let mut ok := true
        for c in ifs1 do
          if ok then ok ← isTrue c env (eval c env)
        if ok then
          (do let _ ← call (.builtin "list.append") [acc, ← eval elt env])
        again (.compLoop (.ListComp elt gs scope pos) d it acc env))) (I : Nat → Shared → Prop)
    (turn : ∀ n s, I n s → wpAny (model prog w) A (pyNext it) (fun r s₁ => match r with
      | none => R (.ok .next) s₁
      | some v => wpAny (model prog w) A (letOwnedTupleGo t1 it v) (fun _ s₁' => wpAny (model prog w) A (assign t1 env v) (fun _ s₂ =>
          wpAny (model prog w) A (forIn ifs1 true fun c r => if r = true then do let ok ← isTrue c env (eval c env); pure (ForInStep.yield ok) else pure (ForInStep.yield r)) (fun ok s₃ =>
            if ok = true then wpAny (model prog w) A (eval elt env) (fun x s₄ =>
              wpAny (model prog w) A (call (.builtin "list.append") [acc, x]) (fun _ s₅ => ∃ m, m < n ∧ I m s₅) (notedBy (model prog w) A env fun e s' => R (.error e) s') s₄) (notedBy (model prog w) A env fun e s' => R (.error e) s') s₃
            else ∃ m, m < n ∧ I m s₃) (notedBy (model prog w) A env fun e s' => R (.error e) s') s₂) (notedBy (model prog w) A env fun e s' => R (.error e) s') s₁') (notedBy (model prog w) A env fun e s' => R (.error e) s') s₁) (notedBy (model prog w) A env fun e s' => R (.error e) s') s)
    (n : Nat) (h : I n s) :
    codeAny (model prog w) A (.compLoop (.ListComp elt gs scope pos) d it acc env) R s := by
  refine codeAny_loop rfl I (fun n s hI => ?_) n h
  show wpAny _ A ((compTurn (.ListComp elt gs scope pos) d it acc env).onRaise (fun x => do noteFrame x env; theTreesLotGoes x)) _ _ s
  refine wpAny_noted ?_
  rw [ht]
  refine wpAny_bind (wpAny_standAt (wpAny_bind (wpAny_mono (turn n s hI) (fun r s₁ h₁ => ?_) fun _ _ h' => h')))
  cases r with
  | none => exact wpAny_pure h₁
  | some v =>
    refine wpAny_bind (wpAny_mono h₁ (fun _ s₁' h₁' => ?_) fun _ _ h' => h')
    refine wpAny_bind (wpAny_mono h₁' (fun _ s₂ h₂ => wpAny_bind (wpAny_mono h₂ (fun ok s₃ h₃ => ?_) fun _ _ h' => h')) fun _ _ h' => h')
    cases ok with
    | false => exact wpAny_pure ⟨rfl, h₃⟩
    | true =>
      exact wpAny_bind (wpAny_bind (wpAny_mono h₃ (fun x s₄ h₄ => wpAny_bind (wpAny_mono h₄ (fun _ s₅ h₅ => wpAny_pure (wpAny_pure ⟨rfl, h₅⟩)) fun _ _ h' => h')) fun _ _ h' => h'))
theorem compStart3_1 (h0 : codeAny (model prog w) A (.compLoop (.ListComp elt [⟨t0, i0, ifs0, 0⟩, ⟨t1, i1, ifs1, 0⟩, ⟨t2, i2, ifs2, 0⟩] scope pos) 1 it acc env) R s)
    (h : wpAny (model prog w) A (pyIter it) (fun it' s' => codeAny (model prog w) A (.compLoop (.ListComp elt [⟨t0, i0, ifs0, 0⟩, ⟨t1, i1, ifs1, 0⟩, ⟨t2, i2, ifs2, 0⟩] scope pos) 1 it' acc env) R s')
      (notedBy (model prog w) A env fun x s' => R (.error x) s') s) :
    codeAny (model prog w) A (.compStart (.ListComp elt [⟨t0, i0, ifs0, 0⟩, ⟨t1, i1, ifs1, 0⟩, ⟨t2, i2, ifs2, 0⟩] scope pos) 1 it acc env) R s := by
  refine codeAny_of_tree ?_
  show wpAny _ _ ((compStart (.ListComp elt [⟨t0, i0, ifs0, 0⟩, ⟨t1, i1, ifs1, 0⟩, ⟨t2, i2, ifs2, 0⟩] scope pos) 1 it acc env).onRaise (fun x => do noteFrame x env; standAt theWindowsPlace)) _ _ s
  refine wpAny_notedAt ?_
  unfold compStart
  show wpAny _ _ (ask >>= _) _ _ s
  refine wpAny_bind (wpAny_askSetting (wpAny_ite ?_))
  split
  · first
      | exact wpAny_bind (wpAny_pure (wpAny_pure (And.intro rfl h0)))
      | exact wpAny_pure (And.intro rfl h0)
  · first
      | exact wpAny_bind (wpAny_rule (wpAny_bind (wpAny_standAt (wpAny_bind (wpAny_mono h (fun it' s' h' => wpAny_pure (And.intro rfl h')) fun _ _ x => x)))))
      | (refine wpAny_bind (wpAny_rule ?_); show wpAny _ _ (standAt i1.pos >>= _) _ _ s; exact wpAny_bind (wpAny_standAt (wpAny_bind (wpAny_mono h (fun it' s' h' => wpAny_pure (And.intro rfl h')) fun _ _ x => x))))
theorem compStart3_2 (h0 : codeAny (model prog w) A (.compLoop (.ListComp elt [⟨t0, i0, ifs0, 0⟩, ⟨t1, i1, ifs1, 0⟩, ⟨t2, i2, ifs2, 0⟩] scope pos) 2 it acc env) R s)
    (h : wpAny (model prog w) A (pyIter it) (fun it' s' => codeAny (model prog w) A (.compLoop (.ListComp elt [⟨t0, i0, ifs0, 0⟩, ⟨t1, i1, ifs1, 0⟩, ⟨t2, i2, ifs2, 0⟩] scope pos) 2 it' acc env) R s')
      (notedBy (model prog w) A env fun x s' => R (.error x) s') s) :
    codeAny (model prog w) A (.compStart (.ListComp elt [⟨t0, i0, ifs0, 0⟩, ⟨t1, i1, ifs1, 0⟩, ⟨t2, i2, ifs2, 0⟩] scope pos) 2 it acc env) R s := by
  refine codeAny_of_tree ?_
  show wpAny _ _ ((compStart (.ListComp elt [⟨t0, i0, ifs0, 0⟩, ⟨t1, i1, ifs1, 0⟩, ⟨t2, i2, ifs2, 0⟩] scope pos) 2 it acc env).onRaise (fun x => do noteFrame x env; standAt theWindowsPlace)) _ _ s
  refine wpAny_notedAt ?_
  unfold compStart
  show wpAny _ _ (ask >>= _) _ _ s
  refine wpAny_bind (wpAny_askSetting (wpAny_ite ?_))
  split
  · first
      | exact wpAny_bind (wpAny_pure (wpAny_pure (And.intro rfl h0)))
      | exact wpAny_pure (And.intro rfl h0)
  · first
      | exact wpAny_bind (wpAny_rule (wpAny_bind (wpAny_standAt (wpAny_bind (wpAny_mono h (fun it' s' h' => wpAny_pure (And.intro rfl h')) fun _ _ x => x)))))
      | (refine wpAny_bind (wpAny_rule ?_); show wpAny _ _ (standAt i2.pos >>= _) _ _ s; exact wpAny_bind (wpAny_standAt (wpAny_bind (wpAny_mono h (fun it' s' h' => wpAny_pure (And.intro rfl h')) fun _ _ x => x))))
end
section
variable {X : Cx}
/-- an inner clause: its loop from a state, by which Nx is reached; body: what is done behind its store and tests -/
def tIn (wi1 : TI) (g1 : TG) (tt1 : TT) (vs1 : List Nat) (body : St → Hp → (Hp → Prop) → Prop) (σ2 : St) (H3 : Hp) (Nx : Hp → Prop) : Prop := wi1 σ2 H3 fun J1 H4 => ∃ W1 : Nat → Nat → Hp → Prop, (∃ m, W1 0 m H4) ∧ ∀ j k H, W1 j k H →
  (J1.stop j H ∧ Nx H) ∨ (J1.go j H ∧ ∃ Nx1 : Hp → Prop, (∀ H', Nx1 H' → ∃ k', k' < k ∧ W1 (j + 1) k' H') ∧ ∀ x H', J1.yld j H x H' → g1 x (wipe σ2 vs1) H' fun σ3 H5 => wipe σ3 vs1 = wipe σ2 vs1 ∧ tt1 σ3 H5 fun b H6 =>
    if b = true then body σ3 H6 Nx1 else Nx1 H6)
def tLeaf (te : TE) (D : Addr) (σ3 : St) (H6 : Hp) (Nx1 : Hp → Prop) : Prop := te σ3 H6 fun y H7 => ∃ acc, H7 D = some (.lst acc) ∧ acc.length < sizeLine ∧ Nx1 (upd H7 D (.lst (acc ++ [y])))
def tLc3 (wi : TI) (g : TG) (tt : TT) (wi1 : TI) (g1 : TG) (tt1 : TT) (wi2 : TI) (g2 : TG) (tt2 : TT) (te : TE) (vs vs1 vs2 : List Nat) : TE := fun σ H Q => wi σ H fun J H1 => ∀ D, H1 D = none → ∃ W : Nat → Nat → Hp → Prop, (∃ m, W 0 m (upd H1 D (.lst []))) ∧ ∀ i m H, W i m H →
  (J.stop i H ∧ Q (.ref D) H) ∨ (J.go i H ∧ ∃ Nx : Hp → Prop, (∀ H', Nx H' → ∃ m', m' < m ∧ W (i + 1) m' H') ∧ ∀ x H', J.yld i H x H' → g x (wipe σ vs) H' fun σ2 H2 => wipe σ2 vs = wipe σ vs ∧ tt σ2 H2 fun b H3 =>
    if b = true then tIn wi1 g1 tt1 vs1 (tIn wi2 g2 tt2 vs2 (tLeaf te D)) σ2 H3 Nx else Nx H3)
theorem in_leaf {pins : List (Addr × Obj)} {s9 : Shared} {σ8 : St} {H9 : Hp} {Nx : Hp → Prop} {D : Addr} {elt tg iter tg1 iter1 tg2 iter2 : Expr} {ifs ifs1 ifs2 : List Expr} {scope : Scope} {vs2 : List Nat} {pos : Pos} {wi2 : TI} {g2 : TG} {tt2 : TT} {te : TE} {Ex : Value → Shared → Prop} (hF : X.xe = fun _ _ => False) (hc : X.calm = true)
    (pi : PI X tg2 iter2 wi2) (pg : PG X tg2 g2) (pt : PTs X ifs2 tt2) (pe : PE X elt te) (I9 : Inv X pins σ8 H9 s9) (q9 : tIn wi2 g2 tt2 vs2 (tLeaf te D) σ8 H9 Nx) :
    wpAny (model X.prog X.w) X.A (eval iter2 X.env) (fun x s₄ => wpAny (model X.prog X.w) X.A (pyIter x) (fun it1 s₅ =>
      codeAny (model X.prog X.w) X.A (.compStart (.ListComp elt [⟨tg, iter, ifs, 0⟩, ⟨tg1, iter1, ifs1, 0⟩, ⟨tg2, iter2, ifs2, 0⟩] scope pos) 2 it1 (.ref D) X.env) (fun r s' => match r with
        | .ok _ => ∃ H', Inv X pins (wipe σ8 vs2) H' s' ∧ Nx H'
        | .error _ => False) s₅) Ex s₄) Ex s9 := by
  have thnX : ∀ {α : Type} {t : Sem α} {Q Q' : α → Shared → Prop} {E : Value → Shared → Prop} {s : Shared}, wpAny (model X.prog X.w) X.A t Q X.xe s → (∀ a s, Q a s → Q' a s) → wpAny (model X.prog X.w) X.A t Q' E s := fun h k => wpAny_mono h k fun e s z => by rw [hF] at z; exact z.elim
  refine thnX (pi.run pins s9 σ8 H9 _ I9 q9) fun xv s10 hx => thnX hx fun itv s11 h11 => ?_
  obtain ⟨it1, fp1, tn1, J1, H11, e1, I11, T1, st11, f11, W1, ⟨m1, w1⟩, turn1⟩ := h11
  subst e1
  have stat1 : ∀ {H' : Hp}, (∀ b ∈ fp1, H' b = none) → ∀ b ∈ fp1, FpOk X pins H' b := fun hn b hb => ⟨hn b hb, (f11 b hb).2⟩
  have loop1 : codeAny (model X.prog X.w) X.A (.compLoop (.ListComp elt [⟨tg, iter, ifs, 0⟩, ⟨tg1, iter1, ifs1, 0⟩, ⟨tg2, iter2, ifs2, 0⟩] scope pos) 2 (.ref it1) (.ref D) X.env)
      (fun r s' => match r with
        | .ok _ => ∃ H', Inv X pins (wipe σ8 vs2) H' s' ∧ Nx H'
        | .error _ => False) s11 := by
    refine compLoop_in (i1 := iter2) (t1 := tg2) (ifs1 := ifs2) (elt := elt) rfl (fun k s' => ∃ j H', Inv X pins (wipe σ8 vs2) H' s' ∧ tn1 j s'.heap ∧ (∀ b ∈ fp1, H' b = none) ∧ W1 j k H') ?_ m1 ⟨0, H11, I11.weak (wipe_length _ _) (fun j v e => (wipe_some e).1), st11, fun b hb => (f11 b hb).1, w1⟩
    rintro k s12 ⟨j, H12, I12, st12, n12, w12⟩
    rcases turn1 j k H12 w12 with ⟨stop1, nx1⟩ | ⟨go1, Nx1, hNx1, step1⟩
    · refine thnF (T1.done X rfl rfl rfl hc j _ s12 (wipe σ8 vs2) H12 (fun _ _ => False) I12 (stat1 n12) st12 stop1) fun r s13 ⟨hr, I13⟩ => ?_
      subst hr
      exact ⟨H12, I13, nx1⟩
    · refine thnF (T1.item X rfl rfl rfl hc j _ s12 (wipe σ8 vs2) H12 (fun _ _ => False) I12 (stat1 n12) st12 go1) fun r s13 ⟨u1, hr, h13⟩ => ?_
      subst hr
      refine thnF h13 fun _ s14 ⟨x1, H14, I14, r14, y14, st14, n14⟩ => ?_
      have I14' := I14.pinned (stat1 n14) (T1.obj _ _ st14)
      refine thnX (pg.run _ s14 (wipe σ8 vs2) H14 x1 u1 _ I14' r14 (step1 x1 H14 y14)) fun _ s15 ⟨σ15, H15, I15, hw15, q15⟩ => ?_
      refine thnX (pt.run _ s15 σ15 H15 _ I15 q15) fun b1 s16 ⟨H16, I16, q16⟩ => ?_
      have fin1 : ∀ {σ9 : St} {s' : Shared} {H' : Hp}, Inv X (pins ++ pinsAt fp1 s14.heap) σ9 H' s' → (wipe σ8 vs2).length = σ9.length → (∀ (j : Nat) v, (wipe σ8 vs2)[j]? = some (some v) → σ9[j]? = some (some v)) → Nx1 H' → ∃ m, m < k ∧ ∃ j H', Inv X pins (wipe σ8 vs2) H' s' ∧ tn1 j s'.heap ∧ (∀ b ∈ fp1, H' b = none) ∧ W1 j m H' := fun {σ9 s' H'} I' hl hk nx => by
        obtain ⟨m', hm, w'⟩ := hNx1 H' nx
        have pin' : ∀ b ∈ fp1, ∀ o, s14.heap.get? b = some o → s'.heap.get? b = some o ∧ H' b = none := fun b hb o e =>
          let z := I'.pin (b, o) (List.mem_append_right _ (List.mem_append_right _ (mem_pinsAt hb e)))
          ⟨z.1, z.2.1⟩
        refine ⟨m', hm, j + 1, H', I'.unpinned.weak hl hk, T1.keep _ _ _ st14 fun b hb o e => (pin' b hb o e).1, fun b hb => ?_, w'⟩
        obtain ⟨o, e, _⟩ := T1.obj _ _ st14 b hb
        exact (pin' b hb o e).2
      have hl15 : (wipe σ8 vs2).length = σ15.length := by rw [← hw15, wipe_length]
      have hk15 : ∀ (j : Nat) v, (wipe σ8 vs2)[j]? = some (some v) → σ15[j]? = some (some v) := fun j v e => by rw [← hw15] at e; exact (wipe_some e).1
      cases b1 with
      | false =>
        simp only [Bool.false_eq_true, if_false] at q16 ⊢
        exact fin1 I16 hl15 hk15 q16
      | true =>
        simp only [if_true] at q16 ⊢
        refine thnX (pe.run _ s16 σ15 H16 _ I16 q16) fun z s17 ⟨yv, H17, I17, r17, acc, hD17, hz17, nx⟩ => ?_
        exact app_ok (X := X) I17 hD17 hz17 r17 fun s18 I18 => fin1 I18 hl15 hk15 nx
  exact compStart3_2 loop1 (T1.self X.A 0 _ _ _ st11 loop1)
theorem in_mid {pins : List (Addr × Obj)} {s9 : Shared} {σ8 : St} {H9 : Hp} {Nx : Hp → Prop} {D : Addr} {elt tg iter tg1 iter1 tg2 iter2 : Expr} {ifs ifs1 ifs2 : List Expr} {scope : Scope} {vs1 vs2 : List Nat} {pos : Pos} {wi1 wi2 : TI} {g1 g2 : TG} {tt1 tt2 : TT} {te : TE} {Ex : Value → Shared → Prop} (hF : X.xe = fun _ _ => False) (hc : X.calm = true)
    (pi : PI X tg1 iter1 wi1) (pg : PG X tg1 g1) (pt : PTs X ifs1 tt1) (pi2 : PI X tg2 iter2 wi2) (pg2 : PG X tg2 g2) (pt2 : PTs X ifs2 tt2) (pe : PE X elt te) (hsub : ∀ i ∈ vs2, i ∈ vs1) (hs2 : ∀ env x, foldedSetIterable iter2 env x = pure x) (I9 : Inv X pins σ8 H9 s9) (q9 : tIn wi1 g1 tt1 vs1 (tIn wi2 g2 tt2 vs2 (tLeaf te D)) σ8 H9 Nx) :
    wpAny (model X.prog X.w) X.A (eval iter1 X.env) (fun x s₄ => wpAny (model X.prog X.w) X.A (pyIter x) (fun it1 s₅ =>
      codeAny (model X.prog X.w) X.A (.compStart (.ListComp elt [⟨tg, iter, ifs, 0⟩, ⟨tg1, iter1, ifs1, 0⟩, ⟨tg2, iter2, ifs2, 0⟩] scope pos) 1 it1 (.ref D) X.env) (fun r s' => match r with
        | .ok _ => ∃ H', Inv X pins (wipe σ8 vs1) H' s' ∧ Nx H'
        | .error _ => False) s₅) Ex s₄) Ex s9 := by
  have thnX : ∀ {α : Type} {t : Sem α} {Q Q' : α → Shared → Prop} {E : Value → Shared → Prop} {s : Shared}, wpAny (model X.prog X.w) X.A t Q X.xe s → (∀ a s, Q a s → Q' a s) → wpAny (model X.prog X.w) X.A t Q' E s := fun h k => wpAny_mono h k fun e s z => by rw [hF] at z; exact z.elim
  refine thnX (pi.run pins s9 σ8 H9 _ I9 q9) fun xv s10 hx => thnX hx fun itv s11 h11 => ?_
  obtain ⟨it1, fp1, tn1, J1, H11, e1, I11, T1, st11, f11, W1, ⟨m1, w1⟩, turn1⟩ := h11
  subst e1
  have stat1 : ∀ {H' : Hp}, (∀ b ∈ fp1, H' b = none) → ∀ b ∈ fp1, FpOk X pins H' b := fun hn b hb => ⟨hn b hb, (f11 b hb).2⟩
  have loop1 : codeAny (model X.prog X.w) X.A (.compLoop (.ListComp elt [⟨tg, iter, ifs, 0⟩, ⟨tg1, iter1, ifs1, 0⟩, ⟨tg2, iter2, ifs2, 0⟩] scope pos) 1 (.ref it1) (.ref D) X.env)
      (fun r s' => match r with
        | .ok _ => ∃ H', Inv X pins (wipe σ8 vs1) H' s' ∧ Nx H'
        | .error _ => False) s11 := by
    refine compLoop_out (i0 := iter1) (t0 := tg1) (ifs0 := ifs1) (i1 := iter2) rfl (hs2 _) (fun k s' => ∃ j H', Inv X pins (wipe σ8 vs1) H' s' ∧ tn1 j s'.heap ∧ (∀ b ∈ fp1, H' b = none) ∧ W1 j k H') ?_ m1 ⟨0, H11, I11.weak (wipe_length _ _) (fun j v e => (wipe_some e).1), st11, fun b hb => (f11 b hb).1, w1⟩
    rintro k s12 ⟨j, H12, I12, st12, n12, w12⟩
    rcases turn1 j k H12 w12 with ⟨stop1, nx1⟩ | ⟨go1, Nx1, hNx1, step1⟩
    · refine thnF (T1.done X rfl rfl rfl hc j _ s12 (wipe σ8 vs1) H12 (fun _ _ => False) I12 (stat1 n12) st12 stop1) fun r s13 ⟨hr, I13⟩ => ?_
      subst hr
      exact ⟨H12, I13, nx1⟩
    · refine thnF (T1.item X rfl rfl rfl hc j _ s12 (wipe σ8 vs1) H12 (fun _ _ => False) I12 (stat1 n12) st12 go1) fun r s13 ⟨u1, hr, h13⟩ => ?_
      subst hr
      refine thnF h13 fun _ s14 ⟨x1, H14, I14, r14, y14, st14, n14⟩ => ?_
      have I14' := I14.pinned (stat1 n14) (T1.obj _ _ st14)
      refine thnX (pg.run _ s14 (wipe σ8 vs1) H14 x1 u1 _ I14' r14 (step1 x1 H14 y14)) fun _ s15 ⟨σ15, H15, I15, hw15, q15⟩ => ?_
      refine thnX (pt.run _ s15 σ15 H15 _ I15 q15) fun b1 s16 ⟨H16, I16, q16⟩ => ?_
      have fin1 : ∀ {σ9 : St} {s' : Shared} {H' : Hp}, Inv X (pins ++ pinsAt fp1 s14.heap) σ9 H' s' → (wipe σ8 vs1).length = σ9.length → (∀ (j : Nat) v, (wipe σ8 vs1)[j]? = some (some v) → σ9[j]? = some (some v)) → Nx1 H' → ∃ m, m < k ∧ ∃ j H', Inv X pins (wipe σ8 vs1) H' s' ∧ tn1 j s'.heap ∧ (∀ b ∈ fp1, H' b = none) ∧ W1 j m H' := fun {σ9 s' H'} I' hl hk nx => by
        obtain ⟨m', hm, w'⟩ := hNx1 H' nx
        have pin' : ∀ b ∈ fp1, ∀ o, s14.heap.get? b = some o → s'.heap.get? b = some o ∧ H' b = none := fun b hb o e =>
          let z := I'.pin (b, o) (List.mem_append_right _ (List.mem_append_right _ (mem_pinsAt hb e)))
          ⟨z.1, z.2.1⟩
        refine ⟨m', hm, j + 1, H', I'.unpinned.weak hl hk, T1.keep _ _ _ st14 fun b hb o e => (pin' b hb o e).1, fun b hb => ?_, w'⟩
        obtain ⟨o, e, _⟩ := T1.obj _ _ st14 b hb
        exact (pin' b hb o e).2
      have hl15 : (wipe σ8 vs1).length = σ15.length := by rw [← hw15, wipe_length]
      have hk15 : ∀ (j : Nat) v, (wipe σ8 vs1)[j]? = some (some v) → σ15[j]? = some (some v) := fun j v e => by rw [← hw15] at e; exact (wipe_some e).1
      cases b1 with
      | false =>
        simp only [Bool.false_eq_true, if_false] at q16 ⊢
        exact fin1 I16 hl15 hk15 q16
      | true =>
        simp only [if_true] at q16 ⊢
        refine wpAny_mono (in_leaf (Ex := fun _ _ => False) hF hc pi2 pg2 pt2 pe I16 q16) (fun xv s17 h17 => wpAny_mono h17 (fun itv s18 h18 => codeAny_mono h18 fun r s' hr => ?_) fun _ _ z => z.elim) fun _ _ z => z.elim
        cases r with
        | error e => exact hr
        | ok f =>
          obtain ⟨H', I', nx⟩ := hr
          refine fin1 I' (hl15.trans (wipe_length σ15 vs2).symm) (fun j v e => ?_) nx
          rw [← hw15] at e
          obtain ⟨e1, e2⟩ := wipe_some e
          rw [wipe_out fun z => e2 (hsub j z)]
          exact e1
  exact compStart3_1 loop1 (T1.self X.A 0 _ _ _ st11 loop1)
theorem lc3_core {pins : List (Addr × Obj)} {s : Shared} {σ : St} {H : Hp} {Q : VK} {elt tg iter tg1 iter1 tg2 iter2 : Expr} {ifs ifs1 ifs2 : List Expr} {scope : Scope} {own : List (Str × Nat)} {vs1 vs2 : List Nat} {pos pos' : Pos} {wi wi1 wi2 : TI} {g g1 g2 : TG} {tt tt1 tt2 : TT} {te : TE} {use : Option (Value → Sem Unit)} {Qf : Value → Shared → Prop}
    (hc : X.calm = true) (hN : X.N.Nodup) (I : Inv X pins σ H s) (hi : PI X tg iter wi) (ok : BlkOk X.N X.env.scope scope own) (hv : ∀ i ∈ vs1, i ∈ own.map (·.2)) (hsub : ∀ i ∈ vs2, i ∈ vs1)
    (hg : ∀ (s : Shared) (H : Hp) (C : Addr) (cl : List (Str × Addr)) (fp : List Addr), PG (X.blk s H scope (compEnvC scope cl C X.env) fp) tg g) (ht : ∀ (s : Shared) (H : Hp) (C : Addr) (cl : List (Str × Addr)) (fp : List Addr), PTs (X.blk s H scope (compEnvC scope cl C X.env) fp) ifs tt)
    (he : ∀ (s : Shared) (H : Hp) (C : Addr) (cl : List (Str × Addr)) (fp : List Addr), PE (X.blk s H scope (compEnvC scope cl C X.env) fp) elt te) (hs : ∀ x, foldedSetIterable iter X.env x = pure x)
    (hi1 : ∀ (s : Shared) (H : Hp) (C : Addr) (cl : List (Str × Addr)) (fp : List Addr), PI (X.blk s H scope (compEnvC scope cl C X.env) fp) tg1 iter1 wi1)
    (hg1 : ∀ (s : Shared) (H : Hp) (C : Addr) (cl : List (Str × Addr)) (fp : List Addr), PG (X.blk s H scope (compEnvC scope cl C X.env) fp) tg1 g1)
    (ht1 : ∀ (s : Shared) (H : Hp) (C : Addr) (cl : List (Str × Addr)) (fp : List Addr), PTs (X.blk s H scope (compEnvC scope cl C X.env) fp) ifs1 tt1)
    (hs1 : ∀ env x, foldedSetIterable iter1 env x = pure x)
    (hi2 : ∀ (s : Shared) (H : Hp) (C : Addr) (cl : List (Str × Addr)) (fp : List Addr), PI (X.blk s H scope (compEnvC scope cl C X.env) fp) tg2 iter2 wi2)
    (hg2 : ∀ (s : Shared) (H : Hp) (C : Addr) (cl : List (Str × Addr)) (fp : List Addr), PG (X.blk s H scope (compEnvC scope cl C X.env) fp) tg2 g2)
    (ht2 : ∀ (s : Shared) (H : Hp) (C : Addr) (cl : List (Str × Addr)) (fp : List Addr), PTs (X.blk s H scope (compEnvC scope cl C X.env) fp) ifs2 tt2)
    (hs2 : ∀ env x, foldedSetIterable iter2 env x = pure x)
    (h : tLc3 wi g tt wi1 g1 tt1 wi2 g2 tt2 te (own.map (·.2)) vs1 vs2 σ H Q)
    (hRR : ∀ D C s' m H', Inv X pins σ H' s' → Q (.ref D) H' → s'.heap.Ns C m → FpOk X pins H' C → compPost (model X.prog X.w) X.A X.xe use Qf (.ref D) C (.ok .next) s') :
    wpAny (model X.prog X.w) X.A (comprehension (.ListComp elt [⟨tg, iter, ifs, 0⟩, ⟨tg1, iter1, ifs1, 0⟩, ⟨tg2, iter2, ifs2, 0⟩] scope pos) scope X.env pos' (newList []) false (eval iter X.env) use) Qf X.xe s := by
  have hfree : ∀ y ∈ scope.names, y.2 = .free → ∃ c, X.env.cells.lookup y.1 = some c := fun y hy e => by
    rcases ok.free y hy e with k | k
    · exact I.ok.has _ (.inl k)
    · exact I.ok.has _ (.inr k)
  refine wpAny_comprehension_free (use := use) rfl hs (closure_ok hfree) ok.kind (fun y hy e => by rw [ok.uniq y hy, e])
    (thn (hi.run pins s σ H _ I h) fun xv s1 hx => thn hx fun itv s2 h2 => ?_)
  obtain ⟨it, fp, tn, J, H2, e, I2, T, st2, f2, q⟩ := h2
  subst e
  refine wpAny_newObj_type (newEnv_comp ?_) (by show 0 ≤ sizeLine; decide)
  generalize hD : s2.heap.objs.size = D
  have hDn : H2 D = none := I2.hok.fresh (Nat.le_of_eq hD)
  obtain ⟨W, ⟨m0, w0⟩, turn⟩ := q D hDn
  -- the new list
  generalize hs3 : ({ s2 with heap := s2.heap.push { cls := .type "list", data := .seq ([] : List Value).toArray } } : Shared) = s3
  have I3 : Inv X pins σ (upd H2 D (.lst [])) s3 := by
    rw [← hs3]
    refine I2.laid (t' := s2.toks) (fun b o e => Heap.get?_push_of_some _ e) (Nat.le_of_eq hD) ⟨Nat.zero_le _, [], 0, .nil, ?_⟩
    rw [← hD]
    exact Heap.get?_push_size _ rfl
  have h3 : s3.heap = s2.heap.push { cls := .type "list", data := .seq ([] : List Value).toArray } := by rw [← hs3]
  have sz : ∀ b ∈ fp, b < s2.heap.objs.size := fun b hb => by
    obtain ⟨o, e, _⟩ := T.obj _ _ st2 b hb
    exact Heap.lt_size e
  have f3 : ∀ b ∈ fp, FpOk X pins (upd H2 D (.lst [])) b ∧ b < s3.heap.objs.size := fun b hb => by
    have hlt := sz b hb
    refine ⟨⟨?_, (f2 b hb).2⟩, by rw [h3, Heap.size_push]; exact Nat.lt_succ_of_lt hlt⟩
    rw [upd_ne (by rw [← hD]; exact Nat.ne_of_lt hlt)]
    exact (f2 b hb).1
  have st3 : tn 0 s3.heap := T.keep _ _ _ st2 fun b _ o e => by rw [h3]; exact Heap.get?_push_of_some _ e
  have I4 := block_start I3 ok hN f3
  have pg := hg s3 (upd H2 D (.lst [])) s3.heap.objs.size (cellsFrom (s3.heap.objs.size + 1) scope.names (cloFrom X.env.cells scope.names [])) fp
  have pt := ht s3 (upd H2 D (.lst [])) s3.heap.objs.size (cellsFrom (s3.heap.objs.size + 1) scope.names (cloFrom X.env.cells scope.names [])) fp
  have pe := he s3 (upd H2 D (.lst [])) s3.heap.objs.size (cellsFrom (s3.heap.objs.size + 1) scope.names (cloFrom X.env.cells scope.names [])) fp
  have pi1 := hi1 s3 (upd H2 D (.lst [])) s3.heap.objs.size (cellsFrom (s3.heap.objs.size + 1) scope.names (cloFrom X.env.cells scope.names [])) fp
  have pg1 := hg1 s3 (upd H2 D (.lst [])) s3.heap.objs.size (cellsFrom (s3.heap.objs.size + 1) scope.names (cloFrom X.env.cells scope.names [])) fp
  have pt1 := ht1 s3 (upd H2 D (.lst [])) s3.heap.objs.size (cellsFrom (s3.heap.objs.size + 1) scope.names (cloFrom X.env.cells scope.names [])) fp
  have pi2 := hi2 s3 (upd H2 D (.lst [])) s3.heap.objs.size (cellsFrom (s3.heap.objs.size + 1) scope.names (cloFrom X.env.cells scope.names [])) fp
  have pg2 := hg2 s3 (upd H2 D (.lst [])) s3.heap.objs.size (cellsFrom (s3.heap.objs.size + 1) scope.names (cloFrom X.env.cells scope.names [])) fp
  have pt2 := ht2 s3 (upd H2 D (.lst [])) s3.heap.objs.size (cellsFrom (s3.heap.objs.size + 1) scope.names (cloFrom X.env.cells scope.names [])) fp
  show codeAny _ _ (.compStart (.ListComp elt [⟨tg, iter, ifs, 0⟩, ⟨tg1, iter1, ifs1, 0⟩, ⟨tg2, iter2, ifs2, 0⟩] scope pos) 0 (.ref it) (.ref D) (compEnvC scope (cellsFrom (s3.heap.objs.size + 1) scope.names (cloFrom X.env.cells scope.names [])) s3.heap.objs.size X.env)) (compPost (model X.prog X.w) X.A X.xe use Qf (.ref D) s3.heap.objs.size) { s3 with heap := pushCells (s3.heap.push { cls := .type "dict", data := .dict #[] }) scope.names }
  have nfp : ∀ b ∈ fp, (upd H2 D (.lst [])) b = none := fun b hb => (f3 b hb).1.1
  generalize hce : compEnvC scope (cellsFrom (s3.heap.objs.size + 1) scope.names (cloFrom X.env.cells scope.names [])) s3.heap.objs.size X.env = ce at I4 pg pt pe pi1 pg1 pt1 pi2 pg2 pt2 ⊢
  have cL : ce.locals = s3.heap.objs.size := by subst hce; rfl
  generalize hH3 : upd H2 D (.lst []) = H3 at I3 I4 pg pt pe pi1 pg1 pt1 pi2 pg2 pt2 w0 nfp f3
  generalize hs4 : ({ s3 with heap := pushCells (s3.heap.push { cls := .type "dict", data := .dict #[] }) scope.names } : Shared) = s4 at I4 ⊢
  have st4 : tn 0 s4.heap := T.keep _ _ _ st3 fun b _ o e => by rw [← hs4]; exact pushCells_keeps _ _ _ _ (Heap.get?_push_of_some _ e)
  have stat : ∀ {σ' : St} {H' : Hp} {s' : Shared}, Inv (X.blk s3 H3 scope ce fp) [] σ' H' s' → (∀ b ∈ fp, H' b = none) → ∀ b ∈ fp, FpOk (X.blk s3 H3 scope ce fp) [] H' b := fun {σ' H' s'} I' hn b hb =>
    ⟨hn b hb, (I'.ok.exf b hb).1, I'.ok.exfs b hb, .inl hb, fun x c e => (I'.ok.exf b hb).2 x c e, fun p hp => absurd (show p ∈ ([] : List (Addr × Obj)) ++ [] from hp) (by simp)⟩
  have loop : codeAny (model X.prog X.w) X.A (.compLoop (.ListComp elt [⟨tg, iter, ifs, 0⟩, ⟨tg1, iter1, ifs1, 0⟩, ⟨tg2, iter2, ifs2, 0⟩] scope pos) 0 (.ref it) (.ref D) ce) (compPost (model X.prog X.w) X.A X.xe use Qf (.ref D) s3.heap.objs.size) s4 := by
    refine compLoop_out (i0 := iter) (t0 := tg) (ifs0 := ifs) (i1 := iter1) rfl (hs1 ce) (fun n s' => ∃ i H', Inv (X.blk s3 H3 scope ce fp) [] (wipe σ (own.map (·.2))) H' s' ∧ tn i s'.heap ∧ (∀ b ∈ fp, H' b = none) ∧ W i n H') ?_ m0 ⟨0, H3, I4, st4, nfp, w0⟩
    rintro n s5 ⟨i, H5, I5, st5, n5, w5⟩
    rcases turn i n H5 w5 with ⟨stop, qq⟩ | ⟨go, Nx, hNx, step⟩
    · have td := T.done (X.blk s3 H3 scope ce fp) rfl rfl rfl hc i [] s5 _ H5 (fun _ _ => False) I5 (stat I5 n5) st5 stop
      refine thnF td fun r s6 ⟨hr, I6⟩ => ?_
      subst hr
      -- back in the def's context
      have I7 : Inv X pins σ H5 s6 := I3.call' (ch := fp) I6.os I6.base I6.hok I6.bare fun b hb => ⟨(f3 b hb).1.2.2.2.1, (f3 b hb).1.2.1, (f3 b hb).1.2.2.2.2.1, (f3 b hb).1.2.2.2.2.2⟩
      have nC : H5 s3.heap.objs.size = none := by
        have z : H5 ce.locals = none := I6.free
        rw [cL] at z
        exact z
      obtain ⟨m, hn, _⟩ := I6.loc
      have hn : s6.heap.Ns ce.locals m := hn
      rw [cL] at hn
      exact hRR D s3.heap.objs.size s6 m H5 I7 qq hn (I3.fpOk (Nat.le_refl _) nC)
    · have ti := T.item (X.blk s3 H3 scope ce fp) rfl rfl rfl hc i [] s5 _ H5 (fun _ _ => False) I5 (stat I5 n5) st5 go
      refine thnF ti fun r s6 ⟨u, hr, h6⟩ => ?_
      subst hr
      refine thnF h6 fun _ s7 ⟨x, H7, I7, r7, y7, st7, n7⟩ => ?_
      have I7' := I7.pinned (stat I7 n7) (T.obj _ _ st7)
      refine thnF (pg.run _ s7 _ H7 x u _ I7' r7 (step x H7 y7)) fun _ s8 ⟨σ8, H8, I8, hw8, q8⟩ => ?_
      refine thnF (pt.run _ s8 σ8 H8 _ I8 q8) fun b s9 ⟨H9, I9, q9⟩ => ?_
      -- the turn's end, from any slots that know what the block knew at its start
      have fin : ∀ {σ9 : St} {s' : Shared} {H' : Hp}, Inv (X.blk s3 H3 scope ce fp) ([] ++ pinsAt fp s7.heap) σ9 H' s' → (wipe σ (own.map (·.2))).length = σ9.length → (∀ (j : Nat) v, (wipe σ (own.map (·.2)))[j]? = some (some v) → σ9[j]? = some (some v)) → Nx H' →
          ∃ m, m < n ∧ ∃ i H', Inv (X.blk s3 H3 scope ce fp) [] (wipe σ (own.map (·.2))) H' s' ∧ tn i s'.heap ∧ (∀ b ∈ fp, H' b = none) ∧ W i m H' := fun {σ9 s' H'} I' hl hk nx => by
        obtain ⟨m', hm, w'⟩ := hNx H' nx
        have pin' : ∀ b ∈ fp, ∀ o, s7.heap.get? b = some o → s'.heap.get? b = some o ∧ H' b = none := fun b hb o e =>
          let z := I'.pin (b, o) (List.mem_append_right _ (List.mem_append_right _ (mem_pinsAt hb e)))
          ⟨z.1, z.2.1⟩
        refine ⟨m', hm, i + 1, H', (I'.unpinned (pins := [])).weak hl hk, T.keep _ _ _ st7 fun b hb o e => (pin' b hb o e).1, fun b hb => ?_, w'⟩
        obtain ⟨o, e, _⟩ := T.obj _ _ st7 b hb
        exact (pin' b hb o e).2
      have hl8 : (wipe σ (own.map (·.2))).length = σ8.length := by rw [← hw8, wipe_length]
      have hk8 : ∀ (j : Nat) v, (wipe σ (own.map (·.2)))[j]? = some (some v) → σ8[j]? = some (some v) := fun j v e => by
        rw [← hw8] at e
        exact (wipe_some e).1
      have hk9 : ∀ (j : Nat) v, (wipe σ (own.map (·.2)))[j]? = some (some v) → (wipe σ8 vs1)[j]? = some (some v) := fun j v e => by
        rw [← hw8] at e
        obtain ⟨e1, e2⟩ := wipe_some e
        rw [wipe_out fun z => e2 (hv j z)]
        exact e1
      cases b with
      | false =>
        simp only [Bool.false_eq_true, if_false] at q9 ⊢
        exact fin I9 hl8 hk8 q9
      | true =>
        simp only [if_true] at q9 ⊢
        refine wpAny_mono (in_mid (X := X.blk s3 H3 scope ce fp) (Ex := fun _ _ => False) rfl hc pi1 pg1 pt1 pi2 pg2 pt2 pe hsub hs2 I9 q9) (fun xv s10 h10 => wpAny_mono h10 (fun itv s11 h11 => codeAny_mono h11 fun r s' hr => ?_) fun _ _ z => z.elim) fun _ _ z => z.elim
        cases r with
        | error e => exact hr
        | ok f =>
          obtain ⟨H', I', nx⟩ := hr
          exact fin I' (hl8.trans (wipe_length σ8 vs1).symm) hk9 nx
  exact codeAny_compStart_list loop (T.self X.A 0 _ _ _ st4 loop)
/-- as a value -/
theorem pe_lc3 {elt tg iter tg1 iter1 tg2 iter2 : Expr} {ifs ifs1 ifs2 : List Expr} {scope : Scope} {own : List (Str × Nat)} {vs1 vs2 : List Nat} {pos : Pos} {wi wi1 wi2 : TI} {g g1 g2 : TG} {tt tt1 tt2 : TT} {te : TE} (hc : X.calm = true) (hN : X.N.Nodup) (hi : PI X tg iter wi) (ok : BlkOk X.N X.env.scope scope own) (hv : ∀ i ∈ vs1, i ∈ own.map (·.2)) (hsub : ∀ i ∈ vs2, i ∈ vs1)
    (hg : ∀ (s : Shared) (H : Hp) (C : Addr) (cl : List (Str × Addr)) (fp : List Addr), PG (X.blk s H scope (compEnvC scope cl C X.env) fp) tg g) (ht : ∀ (s : Shared) (H : Hp) (C : Addr) (cl : List (Str × Addr)) (fp : List Addr), PTs (X.blk s H scope (compEnvC scope cl C X.env) fp) ifs tt)
    (hi1 : ∀ (s : Shared) (H : Hp) (C : Addr) (cl : List (Str × Addr)) (fp : List Addr), PI (X.blk s H scope (compEnvC scope cl C X.env) fp) tg1 iter1 wi1)
    (hg1 : ∀ (s : Shared) (H : Hp) (C : Addr) (cl : List (Str × Addr)) (fp : List Addr), PG (X.blk s H scope (compEnvC scope cl C X.env) fp) tg1 g1) (ht1 : ∀ (s : Shared) (H : Hp) (C : Addr) (cl : List (Str × Addr)) (fp : List Addr), PTs (X.blk s H scope (compEnvC scope cl C X.env) fp) ifs1 tt1)
    (hi2 : ∀ (s : Shared) (H : Hp) (C : Addr) (cl : List (Str × Addr)) (fp : List Addr), PI (X.blk s H scope (compEnvC scope cl C X.env) fp) tg2 iter2 wi2)
    (hg2 : ∀ (s : Shared) (H : Hp) (C : Addr) (cl : List (Str × Addr)) (fp : List Addr), PG (X.blk s H scope (compEnvC scope cl C X.env) fp) tg2 g2) (ht2 : ∀ (s : Shared) (H : Hp) (C : Addr) (cl : List (Str × Addr)) (fp : List Addr), PTs (X.blk s H scope (compEnvC scope cl C X.env) fp) ifs2 tt2)
    (he : ∀ (s : Shared) (H : Hp) (C : Addr) (cl : List (Str × Addr)) (fp : List Addr), PE (X.blk s H scope (compEnvC scope cl C X.env) fp) elt te) (hs : ∀ x, foldedSetIterable iter X.env x = pure x := by intro _; rfl) (hs1 : ∀ env x, foldedSetIterable iter1 env x = pure x := by intro _ _; rfl) (hs2 : ∀ env x, foldedSetIterable iter2 env x = pure x := by intro _ _; rfl) :
    PE X (.ListComp elt [⟨tg, iter, ifs, 0⟩, ⟨tg1, iter1, ifs1, 0⟩, ⟨tg2, iter2, ifs2, 0⟩] scope pos) (tLc3 wi g tt wi1 g1 tt1 wi2 g2 tt2 te (own.map (·.2)) vs1 vs2) := by
  refine ⟨fun pins s σ H Q I h => ?_⟩
  rw [eval_ListComp]
  refine lc3_core hc hN I hi ok hv hsub hg ht he hs hi1 hg1 ht1 hs1 hi2 hg2 ht2 hs2 h fun D C s' m H' I' q hn f => ⟨m, hn, fun h'' sb => ?_⟩
  obtain ⟨f0, f1, f2, f3, f4, f5⟩ := f
  exact ⟨.ref D, H', I'.turned (t' := s'.toks) (fun b o hb e => (sb.2 b hb).trans e) f0 f1 f3 f4 f5, rfl, q⟩
end
end L2
/-! PD87: [elt for .. for .. for ..] over data. -/
namespace PD
open PySem PySem.Spec PyProof.Rows L2
abbrev BodyD := PD.Dl → Mu → List D → (List D → Mu → Prop) → Prop
section
variable {Γ : Ct} {elt tg iter tg1 iter1 tg2 iter2 : Expr} {ifs ifs1 ifs2 : List Expr} {scope : Scope} {own : List (Str × Nat)} {vs1 vs2 : List Nat} {pos : Pos} {δ : PD.Dl} {μ : Mu} {Q : D → Mu → Prop}
def lcdIn (Γ : Ct) (tg1 iter1 : Expr) (ifs1 : List Expr) (scope : Scope) (vs1 : List Nat) (body : BodyD) : BodyD := fun δ2 μ3 acc Nx => allB Γ scope fun Γe => eid Γe tg1 iter1 δ2 μ3 fun ds1 S1 μ4 => ∃ I1 : Nat → List D → Mu → Prop, I1 0 acc μ4 ∧ (∀ j acc' μ', j ≤ ds1.length → I1 j acc' μ' → S1 μ' ∧ acc'.length ≤ 1000000) ∧
  (∀ j d1 acc' μ', ds1[j]? = some d1 → I1 j acc' μ' → allB Γ scope fun Γf => gv Γf tg1 d1 vs1 (wipeD δ2 vs1) μ' fun δ3 μ5 => allB Γ scope fun Γg => eif Γg ifs1 δ3 μ5 fun b μ6 =>
    if b = true then body δ3 μ6 acc' (fun a m => I1 (j + 1) a m) else I1 (j + 1) acc' μ6) ∧ ∀ acc' μ', I1 ds1.length acc' μ' → Nx acc' μ'
def lcdLf (Γ : Ct) (elt : Expr) (scope : Scope) : BodyD := fun δ3 μ6 acc Nx => allB Γ scope fun Γh => ed Γh elt δ3 μ6 fun r μ7 => Nx (acc ++ [r]) μ7
def BRun (Γ : Ct) (F1 : Hp) (δ : PD.Dl) (σ : L2.St) (Da : Addr) (body : BodyD) (bV : L2.St → Hp → (Hp → Prop) → Prop) : Prop := ∀ (F6 : Hp) (acc6 : List D) (μ6 : Mu) (H6 : Hp) (δ3 : PD.Dl) (σ3 : L2.St) (Nx : List D → Mu → Prop) (NxV : Hp → Prop), LcAt Γ F1 δ σ Da acc6 μ6 H6 F6 → Fr Γ.X.K F6 σ3 δ3 → acc6.length ≤ 1000000 → body δ3 μ6 acc6 Nx →
  (∀ F7 acc7 μ7 H7, LcAt Γ F1 δ σ Da acc7 μ7 H7 F7 → Same F6 F7 → Nx acc7 μ7 → NxV H7) → bV σ3 H6 NxV
theorem lf_run {F1 : Hp} {σ : L2.St} {Da : Addr} (h0D : Γ.H0 Da = none ∨ Da ∈ dom Γ.μ0) : BRun Γ F1 δ σ Da (lcdLf Γ elt scope) (tLeaf (weB Γ.X scope elt) Da) := by
  intro F6 acc6 μ6 H6 δ3 σ3 Nx NxV L6 fr hl q k
  unfold tLeaf
  intro sC5 HC5 D5 cl9 fp9
  have aH : At (Γ.blk scope sC5 HC5 D5 cl9 fp9 F6 μ6 H6) F6 δ3 μ6 σ3 H6 := ⟨Step.refl _ _ _, L6.at_.sx, fr⟩
  refine we_mono (q sC5 HC5 D5 cl9 fp9 F6 μ6 H6 F6 σ3 H6 aH) fun v H10 ⟨F10, r, μ10, s10, a10, r10, q10⟩ => ?_
  have L10 := L6.step (σb := σ) (δb := δ) a10.st a10.sx
  obtain ⟨ws, g1', g2'⟩ := L10.ls
  refine ⟨ws, g1', ?_, k F10 (acc6 ++ [r]) μ10 _ ⟨L10.sm, L10.at_.updFree h0D L10.f L10.m, ⟨ws ++ [v], upd_same, g2'.append (Dps.cons r10 Dps.nil)⟩, L10.f, L10.m⟩ s10 q10⟩
  rw [← g2'.length, sizeLine_eq]
  omega
theorem in_run {F1 : Hp} {σ : L2.St} {Da : Addr} {body : BodyD} {bV : L2.St → Hp → (Hp → Prop) → Prop} (hB : BRun Γ F1 δ σ Da body bV) : BRun Γ F1 δ σ Da (lcdIn Γ tg1 iter1 ifs1 scope vs1 body) (tIn (wiB Γ.X scope tg1 iter1) (wgB Γ.X scope tg1) (wtB Γ.X scope ifs1) vs1 bV) := by
  intro F4 acc μ4 H4 δ2 σ2 Nx NxV L4 fr4 hl4 q4 k
  unfold tIn
  intro sB5 HB5 C5 cl5 fp5
  have aE : At (Γ.blk scope sB5 HB5 C5 cl5 fp5 F4 μ4 H4) F4 δ2 μ4 σ2 H4 := ⟨Step.refl _ _ _, L4.at_.sx, fr4⟩
  refine wi_mono (q4 sB5 HB5 C5 cl5 fp5 F4 μ4 H4 F4 σ2 H4 aE) fun J1 H5 ⟨F5, ds1, S1, μ5, s5, a5, ok1, I1, i0, iS, ib, ie⟩ => ?_
  have L5 := L4.step (σb := σ) (δb := δ) a5.st a5.sx
  refine ⟨fun j k H' => k = ds1.length - j ∧ j ≤ ds1.length ∧ ∃ F' acc' μ', LcAt Γ F1 δ σ Da acc' μ' H' F' ∧ Same F5 F' ∧ I1 j acc' μ', ⟨ds1.length, by simp, Nat.zero_le _, F5, acc, μ5, L5, Same.refl _, i0⟩, ?_⟩
  rintro j kk H6 ⟨rfl, hj, F6, acc6, μ6, L6, sm6, hI1⟩
  obtain ⟨hSj, hacc⟩ := iS j acc6 μ6 hj hI1
  by_cases hlt1 : j < ds1.length
  · have e1 : ds1[j]? = some ds1[j] := List.getElem?_eq_getElem hlt1
    have aI : At (Γ.blk scope sB5 HB5 C5 cl5 fp5 F6 μ6 H6) F6 δ2 μ6 σ2 H6 := ⟨Step.refl _ _ _, L6.at_.sx, a5.fr.mono sm6⟩
    obtain ⟨k1, k2⟩ := ok1.go (Γ.blk scope sB5 HB5 C5 cl5 fp5 F6 μ6 H6) rfl j F6 δ2 μ6 σ2 H6 sm6 aI hSj _ e1
    refine .inr ⟨k1, fun H7 => ∃ F7 acc7 μ7, LcAt Γ F1 δ σ Da acc7 μ7 H7 F7 ∧ Same F5 F7 ∧ I1 (j + 1) acc7 μ7, fun H7 ⟨F7, acc7, μ7, L7, sm7, q7⟩ => ⟨ds1.length - (j + 1), by omega, rfl, hlt1, F7, acc7, μ7, L7, sm7, q7⟩, fun x1 H7 y1 => ?_⟩
    obtain ⟨F7, s7, a7, r7⟩ := k2 x1 H7 y1
    have L7 := L6.step (σb := σ) (δb := δ) a7.st a7.sx
    intro sC HC D1 cl7 fp7
    have aF : At (Γ.blk scope sC HC D1 cl7 fp7 F7 μ6 H7) F7 (wipeD δ2 vs1) μ6 (L2.wipe σ2 vs1) H7 := ⟨Step.refl _ _ _, L7.at_.sx, a7.fr.wipe vs1⟩
    refine wg_mono (ib j _ acc6 μ6 e1 hI1 sC HC D1 cl7 fp7 F7 μ6 H7 F7 (L2.wipe σ2 vs1) H7 x1 aF r7) fun σ8 H8 ⟨w8, F8, δ8, μ8, s8, a8, q8⟩ => ⟨w8.trans wipe_wipe, ?_⟩
    have L8 := L7.step (σb := σ) (δb := δ) a8.st a8.sx
    intro sC2 HC2 D2 cl8 fp8
    have aG : At (Γ.blk scope sC2 HC2 D2 cl8 fp8 F8 μ8 H8) F8 δ8 μ8 σ8 H8 := ⟨Step.refl _ _ _, a8.sx, a8.fr⟩
    refine eif_run (q8 sC2 HC2 D2 cl8 fp8 F8 μ8 H8) aG fun b H9 ⟨F9, μ9, s9, a9, q9⟩ => ?_
    have L9 := L8.step (σb := σ) (δb := δ) a9.st a9.sx
    have smm : Same F5 F9 := ((sm6.trans s7).trans s8).trans s9
    cases b with
    | true =>
      rw [if_pos rfl] at q9 ⊢
      exact hB F9 acc6 μ9 H9 δ8 σ8 _ _ L9 a9.fr hacc q9 fun F10 acc10 μ10 H10 L10 s10 q10 => ⟨F10, acc10, μ10, L10, smm.trans s10, q10⟩
    | false =>
      rw [if_neg Bool.false_ne_true] at q9 ⊢
      exact ⟨F9, acc6, μ9, L9, smm, q9⟩
  · have ej : j = ds1.length := by omega
    subst ej
    have aI : At (Γ.blk scope sB5 HB5 C5 cl5 fp5 F6 μ6 H6) F6 δ2 μ6 σ2 H6 := ⟨Step.refl _ _ _, L6.at_.sx, a5.fr.mono sm6⟩
    exact .inl ⟨ok1.stop (Γ.blk scope sB5 HB5 C5 cl5 fp5 F6 μ6 H6) rfl _ F6 δ2 μ6 σ2 H6 sm6 aI hSj (Nat.le_refl _), k F6 acc6 μ6 H6 L6 (s5.trans sm6) (ie acc6 μ6 hI1)⟩
def lcd3 (Γ : Ct) (elt tg iter : Expr) (ifs : List Expr) (tg1 iter1 : Expr) (ifs1 : List Expr) (tg2 iter2 : Expr) (ifs2 : List Expr) (scope : Scope) (vs vs1 vs2 : List Nat) (δ : PD.Dl) (μ : Mu) (Q : List D → Mu → Prop) : Prop := eid Γ tg iter δ μ fun ds S μ1 => ∃ I : Nat → List D → Mu → Prop, I 0 [] μ1 ∧ (∀ i acc μ', i ≤ ds.length → I i acc μ' → S μ' ∧ acc.length ≤ 1000000) ∧
      (∀ i d acc μ', ds[i]? = some d → I i acc μ' → allB Γ scope fun Γb => gv Γb tg d vs (wipeD δ vs) μ' fun δ2 μ2 => allB Γ scope fun Γc => eif Γc ifs δ2 μ2 fun b μ3 =>
        if b = true then lcdIn Γ tg1 iter1 ifs1 scope vs1 (lcdIn Γ tg2 iter2 ifs2 scope vs2 (lcdLf Γ elt scope)) δ2 μ3 acc (fun acc' μ' => I (i + 1) acc' μ') else I (i + 1) acc μ3) ∧ ∀ acc μ', I ds.length acc μ' → Q acc μ'
theorem lcd3_run {vs : List Nat} {Q : List D → Mu → Prop} (h : lcd3 Γ elt tg iter ifs tg1 iter1 ifs1 tg2 iter2 ifs2 scope vs vs1 vs2 δ μ Q) (F σ H) (a : At Γ F δ μ σ H) :
    tLc3 (wi Γ.X tg iter) (wgB Γ.X scope tg) (wtB Γ.X scope ifs) (wiB Γ.X scope tg1 iter1) (wgB Γ.X scope tg1) (wtB Γ.X scope ifs1) (wiB Γ.X scope tg2 iter2) (wgB Γ.X scope tg2) (wtB Γ.X scope ifs2) (weB Γ.X scope elt) vs vs1 vs2 σ H (PostE Γ F δ σ fun d μ' => ∃ ds, d = .lst ds ∧ Q ds μ') := by
  refine wi_mono (h F σ H a) fun J H1 ⟨F1, ds, S, μ1, s1, a1, ok, I, h0, hS, hb, hd⟩ => fun Da hD => ?_
  have h0D : Γ.H0 Da = none ∨ Da ∈ dom Γ.μ0 := a1.st.back hD
  refine ⟨fun i m H' => m = ds.length - i ∧ i ≤ ds.length ∧ ∃ F' acc μ', LcAt Γ F1 δ σ Da acc μ' H' F' ∧ I i acc μ', ⟨ds.length, by simp, Nat.zero_le _, F1, [], μ1, ⟨Same.refl _, a1.ext (same_upd hD), ⟨[], upd_same, Dps.nil⟩, a1.sx.sub.free hD, fun hm => ?_⟩, h0⟩, ?_⟩
  · obtain ⟨c, hc, e⟩ := List.mem_map.mp hm
    obtain ⟨u, hu⟩ := (a1.sx.cells c hc).there
    rw [e, hD] at hu; cases hu
  rintro i m H' ⟨rfl, hi, F', acc, μ', L, hI⟩
  obtain ⟨hSi, hacc⟩ := hS i acc μ' hi hI
  by_cases hlt : i < ds.length
  · have e : ds[i]? = some ds[i] := List.getElem?_eq_getElem hlt
    have ah := L.at_.here
    obtain ⟨g1, g2⟩ := ok.go (Γ.here L.at_.st) rfl i F' δ μ' σ H' L.sm ah hSi _ e
    refine .inr ⟨g1, fun H2 => ∃ F2 acc2 μ2, LcAt Γ F1 δ σ Da acc2 μ2 H2 F2 ∧ I (i + 1) acc2 μ2, fun H2 ⟨F2, acc2, μ2, L2', q2⟩ => ⟨ds.length - (i + 1), by omega, rfl, hlt, F2, acc2, μ2, L2', q2⟩, fun x H2 y => ?_⟩
    obtain ⟨F2, s2, a2, r2⟩ := g2 x H2 y
    have LL := L.step (σb := σ) (δb := δ) a2.st a2.sx
    intro sB HB C cl fp
    have aB : At (Γ.blk scope sB HB C cl fp F2 μ' H2) F2 (wipeD δ vs) μ' (L2.wipe σ vs) H2 := ⟨Step.refl _ _ _, LL.at_.sx, LL.at_.fr.wipe vs⟩
    refine wg_mono (hb i _ acc μ' e hI sB HB C cl fp F2 μ' H2 F2 (L2.wipe σ vs) H2 x aB r2) fun σ3 H3 ⟨w3, F3, δ3, μ3, s3, a3, q3⟩ => ⟨w3.trans wipe_wipe, ?_⟩
    have L3 := LL.step (σb := σ) (δb := δ) a3.st a3.sx
    intro sB2 HB2 C2 cl2 fp2
    have aC : At (Γ.blk scope sB2 HB2 C2 cl2 fp2 F3 μ3 H3) F3 δ3 μ3 σ3 H3 := ⟨Step.refl _ _ _, a3.sx, a3.fr⟩
    refine eif_run (q3 sB2 HB2 C2 cl2 fp2 F3 μ3 H3) aC fun b H4 ⟨F4, μ4, s4, a4, q4⟩ => ?_
    have L4 := L3.step (σb := σ) (δb := δ) a4.st a4.sx
    cases b with
    | false =>
      rw [if_neg Bool.false_ne_true] at q4 ⊢
      exact ⟨F4, acc, μ4, L4, q4⟩
    | true =>
      rw [if_pos rfl] at q4 ⊢
      exact in_run (in_run (lf_run h0D)) F4 acc μ4 H4 δ3 σ3 _ _ L4 a4.fr hacc q4 fun F10 acc10 μ10 H10 L10 s10 q10 => ⟨F10, acc10, μ10, L10, q10⟩
  · have e : i = ds.length := by omega
    subst e
    refine .inl ⟨ok.stop Γ rfl _ F' δ μ' σ H' L.sm L.at_ hSi (Nat.le_refl _), ?_⟩
    obtain ⟨ws, h1, h2⟩ := L.ls
    have sF := same_upd (o := HO.lst ws) L.f
    have ah := L.at_
    have a2 : At Γ (upd F' Da (.lst ws)) δ μ' σ H' := by
      refine ⟨⟨ah.st.ext.trans sF, ah.st.keep, fun b u h hn => ?_, ah.st.cell⟩, ⟨fun b u h => ?_, fun c hc => ?_, ah.sx.nd, fun c hc => (ah.sx.cells c hc).mono sF rfl⟩, ah.fr.mono sF⟩
      · by_cases q : b = Da
        · rw [q]; exact h0D
        · rw [upd_ne q] at h; exact ah.st.new b u h hn
      · by_cases q : b = Da
        · rw [q, upd_same] at h; rw [q, ← h]; exact h1
        · rw [upd_ne q] at h; exact ah.sx.sub _ _ h
      · rw [upd_ne (fun e => L.m (by rw [← e]; exact List.mem_map.mpr ⟨c, hc, rfl⟩))]; exact ah.sx.off c hc
    exact ⟨_, .lst acc, μ', s1.trans (L.sm.trans sF), a2, dpl upd_same (h2.mono sF), acc, rfl, hd acc μ' hI⟩
theorem ed_lc3 {own : List (Str × Nat)} {Q : D → Mu → Prop} (own_ : List (Str × Nat)) (e : own = own_) (hc : Γ.X.calm = true) (hN : Γ.X.N.Nodup) (ok : BlkOk Γ.X.N Γ.X.env.scope scope own) (hv : ∀ i ∈ vs1, i ∈ own.map (·.2)) (hsub : ∀ i ∈ vs2, i ∈ vs1) (h : lcd3 Γ elt tg iter ifs tg1 iter1 ifs1 tg2 iter2 ifs2 scope (own.map (·.2)) vs1 vs2 δ μ fun ds μ' => Q (.lst ds) μ')
    (hs : ∀ x, foldedSetIterable iter Γ.X.env x = pure x := by intro _; rfl) (hs1 : ∀ env x, foldedSetIterable iter1 env x = pure x := by intro _ _; rfl) (hs2 : ∀ env x, foldedSetIterable iter2 env x = pure x := by intro _ _; rfl) : ed Γ (.ListComp elt [⟨tg, iter, ifs, 0⟩, ⟨tg1, iter1, ifs1, 0⟩, ⟨tg2, iter2, ifs2, 0⟩] scope pos) δ μ Q := fun F σ H a =>
  we_mono (we_of (pe_lc3 hc hN pi_wi ok hv hsub pg_wgB pts_wtB pi_wiB pg_wgB pts_wtB pi_wiB pg_wgB pts_wtB pe_weB hs hs1 hs2) (lcd3_run h F σ H a)) fun v H' ⟨F', d, μ', s, a', r, ds, e, q⟩ => ⟨F', d, μ', s, a', r, by rw [e]; exact q⟩
theorem flatMap_take {f : D → List D} {ds : List D} {j : Nat} {d : D} (e : ds[j]? = some d) : (ds.take (j + 1)).flatMap f = (ds.take j).flatMap f ++ f d := by
  rw [List.take_add_one, e, List.flatMap_append]; simp
theorem flatMap_le {f : D → List D} {ds : List D} {j : Nat} {d : D} (e : ds[j]? = some d) : ((ds.take j).flatMap f).length + (f d).length ≤ (ds.flatMap f).length := by
  have h1 := flatMap_take (f := f) e
  have h2 : ds.flatMap f = (ds.take (j + 1)).flatMap f ++ (ds.drop (j + 1)).flatMap f := by rw [← List.flatMap_append, List.take_append_drop]
  rw [h2, h1]; simp
theorem flatMap_le0 {f : D → List D} {ds : List D} {j : Nat} : ((ds.take j).flatMap f).length ≤ (ds.flatMap f).length := by
  have h2 : ds.flatMap f = (ds.take j).flatMap f ++ (ds.drop j).flatMap f := by rw [← List.flatMap_append, List.take_append_drop]
  rw [h2]; simp
/-- an inner clause that changes nothing: each thing adds f of it -/
theorem lcdIn_fm {body : BodyD} {δ2 : PD.Dl} {acc : List D} {Nx : List D → Mu → Prop} (f : D → List D) (h : allB Γ scope fun Γe => eid Γe tg1 iter1 δ2 μ fun ds1 S1 μ4 => S1 μ4 ∧ acc.length + (ds1.flatMap f).length ≤ 1000000 ∧
    (∀ d1 ∈ ds1, ∀ (acc' : List D) (Nx1 : List D → Mu → Prop), acc'.length + (f d1).length ≤ 1000000 → Nx1 (acc' ++ f d1) μ4 → allB Γ scope fun Γf => gv Γf tg1 d1 vs1 (wipeD δ2 vs1) μ4 fun δ3 μ5 => allB Γ scope fun Γg => eif Γg ifs1 δ3 μ5 fun b μ6 => if b = true then body δ3 μ6 acc' Nx1 else Nx1 acc' μ6) ∧ Nx (acc ++ ds1.flatMap f) μ4) : lcdIn Γ tg1 iter1 ifs1 scope vs1 body δ2 μ acc Nx := fun s H C cl fp F0 μ0 H0 F σ H' a => by
  refine wi_mono (h s H C cl fp F0 μ0 H0 F σ H' a) fun J H1 ⟨F1, ds, S, μ1, s1, a1, ok, hS, hl, hb, hn⟩ => ⟨F1, ds, S, μ1, s1, a1, ok, fun j acc' μ' => acc' = acc ++ (ds.take j).flatMap f ∧ μ' = μ1, ⟨by simp, rfl⟩, ?_, ?_, ?_⟩
  · rintro j acc' μ' hj ⟨rfl, rfl⟩
    have := flatMap_le0 (f := f) (ds := ds) (j := j)
    exact ⟨hS, by rw [List.length_append]; omega⟩
  · rintro j d1 acc' μ' e ⟨rfl, rfl⟩
    have := flatMap_le (f := f) e
    exact hb d1 (List.mem_of_getElem? e) _ _ (by rw [List.length_append]; omega) ⟨by rw [flatMap_take e, List.append_assoc], rfl⟩
  · rintro acc' μ' ⟨rfl, rfl⟩
    rw [List.take_length]
    exact hn
theorem lcd3_fm {vs : List Nat} {Q : List D → Mu → Prop} (f : D → List D) (h : eid Γ tg iter δ μ fun ds S μ1 => S μ1 ∧ (ds.flatMap f).length ≤ 1000000 ∧
    (∀ d ∈ ds, ∀ (acc' : List D) (Nx1 : List D → Mu → Prop), acc'.length + (f d).length ≤ 1000000 → Nx1 (acc' ++ f d) μ1 → allB Γ scope fun Γb => gv Γb tg d vs (wipeD δ vs) μ1 fun δ2 μ2 => allB Γ scope fun Γc => eif Γc ifs δ2 μ2 fun b μ3 => if b = true then lcdIn Γ tg1 iter1 ifs1 scope vs1 (lcdIn Γ tg2 iter2 ifs2 scope vs2 (lcdLf Γ elt scope)) δ2 μ3 acc' Nx1 else Nx1 acc' μ3) ∧ Q (ds.flatMap f) μ1) : lcd3 Γ elt tg iter ifs tg1 iter1 ifs1 tg2 iter2 ifs2 scope vs vs1 vs2 δ μ Q := fun F σ H' a => by
  refine wi_mono (h F σ H' a) fun J H1 ⟨F1, ds, S, μ1, s1, a1, ok, hS, hl, hb, hn⟩ => ⟨F1, ds, S, μ1, s1, a1, ok, fun j acc' μ' => acc' = (ds.take j).flatMap f ∧ μ' = μ1, ⟨by simp, rfl⟩, ?_, ?_, ?_⟩
  · rintro j acc' μ' hj ⟨rfl, rfl⟩
    have := flatMap_le0 (f := f) (ds := ds) (j := j)
    exact ⟨hS, by omega⟩
  · rintro j d1 acc' μ' e ⟨rfl, rfl⟩
    have := flatMap_le (f := f) e
    exact hb d1 (List.mem_of_getElem? e) _ _ (by omega) ⟨by rw [flatMap_take e], rfl⟩
  · rintro acc' μ' ⟨rfl, rfl⟩
    rw [List.take_length]
    exact hn
end
end PD
/-! PD88: tuples among things of a list; insert; constants of the top that are tuples of plain values; keyword-only defaults that are objects. -/
namespace PD
open PySem PySem.Spec PyProof.Rows L2
/-- the keyword-only default x of the def at f, if it is an object -/
def kwAt (f : Str × Option Str) (x : Str) (K : PySem.W.Frag) : Addr := match K.lookup (He.fAd K f) with
  | some ⟨_, _, .func fd, _⟩ => (match fd.kwdefaults with
    | .ref D => (match PySem.W.nsIn K D x with
      | some (some (.ref a)) => a
      | _ => 0)
    | _ => 0)
  | _ => 0
def dvD : He.Dv → D
  | .non => .non
  | .bl b => .bl b
  | .int i => .int i
  | .str x => .str x
  | _ => .non
def dvP : He.Dv → Bool
  | .non => true
  | .bl _ => true
  | .int _ => true
  | .str _ => true
  | _ => false
theorem dps_dv {K : PySem.W.Frag} {F : Hp} : ∀ {vs : List He.Dv}, vs.all dvP = true → Dps K F (vs.map dvD) (vs.map (He.Dv.v K))
  | [], _ => Dps.nil
  | v :: vs, h => by
    rw [List.all_cons, Bool.and_eq_true] at h
    rw [List.map_cons, List.map_cons]
    refine Dps.cons ?_ (dps_dv h.2)
    cases v with
    | non => exact dpn
    | bl b => exact dpb
    | int i => exact dpi
    | str x => exact dps
    | _ => cases h.1
section
variable {Γ : Ct} {δ : Dl} {μ μ1 μ2 : Mu} {Q : D → Mu → Prop} {pos : Pos} {x : Str} {a : Addr}
theorem ed_gtupV {vs : List He.Dv} {ds : List D} (hm : Γ.X.mg x = some (.ref a)) (h : tupAB Γ.X.K a vs = true) (hp : vs.all dvP = true) (e : vs.map dvD = ds) (q : Q (.tup ds) μ) (hg : Gl Γ.X x := by rfl) (hd : (x == ("__debug__" : Str)) = false := by decide +kernel) : ed Γ (.Name x pos) δ μ Q :=
  ed_glob hm (v := .ref a) rfl (fun F => by rw [← e]; exact dpt (tupAB_ok h F) (dps_dv hp)) q hg hd
/-- xs.insert(i, y), xs owned -/
theorem mtd_insert {p : Addr} {xs : List D} {d : D} {i : Int} (hl : xs.length < sizeLine) (h0 : 0 ≤ i) (h1 : i < 2 ^ 63) (q : Q .non (μ1 ++ (p, .lst (xs.take i.toNat ++ [d] ++ xs.drop i.toNat)) :: μ2)) : mtd Γ "list.insert" (.ref p) [.int i, d] δ (μ1 ++ (p, .lst xs) :: μ2) Q := mtd_of mt_insert fun F σ H vx vs a r1 r2 => by
  rw [dpR r1]
  obtain ⟨v, v2, rfl, r3, r4⟩ := r2.two
  rw [dpI r3]
  obtain ⟨ws, g1, g2⟩ := a.sx.cells (p, .lst xs) mem_mid
  exact ⟨p, ws, i, v2, rfl, rfl, g1, by rw [← g2.length]; exact hl, h0, h1, F, .non, _, Same.refl F, a.put (c' := .lst (xs.take i.toNat ++ [d] ++ xs.drop i.toNat)) ⟨_, upd_same, ((g2.take _).append (Dps.cons r4 Dps.nil)).append (g2.drop _)⟩, dpn, q⟩
end
/-! ### tuples in a list -/
section
variable {X : Cx} {pins : List (Addr × Obj)} {σ : L2.St} {H F : Hp} {s : Shared}
open Classical in
noncomputable def isK (h : Heap) (k : NestedKey) (u : Value) : Bool := decide (NestedIs h k u)
open Classical in
theorem isK_of {h : Heap} {k k' : NestedKey} {u : Value} (r : NestedIs h k' u) : isK h k u = decide (k' = k) := by
  unfold isK
  by_cases e : k' = k
  · subst e; rw [decide_eq_true r, decide_eq_true rfl]
  · rw [decide_eq_false e]
    exact decide_eq_false fun z => e (NestedIs.inj _ _ _ r z)
theorem items_nk (I : Inv X pins σ H s) (hs : Same F H) : ∀ {ds : List D} {vs : List V} {us : List Value}, (∀ d ∈ ds, ∃ k, d.nk = some k ∧ k.depth ≤ 8) → Dps X.K F ds vs → Vals vs us →
    (∀ u ∈ us, ∃ k, NestedIs s.heap k u ∧ k.depth ≤ 8) ∧ ∀ k, us.any (isK s.heap k) = ds.any fun d => decide (d.nk = some k)
  | [], vs, us, _, r, q => by
    obtain rfl := r.unnil
    cases q
    exact ⟨fun u hu => (by cases hu), fun k => rfl⟩
  | d :: ds, vs, us, h, r, q => by
    obtain ⟨v, ws, rfl, r1, r2⟩ := r.uncons
    cases q with
    | @cons _ u _ us' q1 q2 =>
      obtain ⟨k0, e0, d0⟩ := h d List.mem_cons_self
      have n0 := nested_of I hs d e0 r1 q1
      obtain ⟨i1, i2⟩ := items_nk I hs (fun d' hd' => h d' (List.mem_cons_of_mem _ hd')) r2 q2
      refine ⟨fun u' hu' => ?_, fun k => ?_⟩
      · rcases List.mem_cons.mp hu' with e | hu'
        · subst e; exact ⟨k0, n0, d0⟩
        · exact i1 u' hu'
      · rw [List.any_cons, List.any_cons, i2, isK_of n0, e0]
        congr 1
        by_cases e : k0 = k
        · rw [decide_eq_true e, decide_eq_true (by rw [e])]
        · rw [decide_eq_false e, decide_eq_false (fun z => e (Option.some.inj z))]
end
section
variable {Γ : Ct} {δ : Dl} {μ : Mu} {Q : D → Mu → Prop} {x y : D} {xs : List D} {k : NestedKey}
theorem eqAt_isK {A : Around} {s : Shared} {u v : Value} (hk : NestedIs s.heap k v) (hd : k.depth ≤ 8) (hu : A.units + 8 < cLine) (h : ∃ k', NestedIs s.heap k' u ∧ k'.depth ≤ 8) : SeqAt.EqAt A s u v (isK s.heap k u) := by
  obtain ⟨k', n', _⟩ := h
  rw [isK_of n', NestedKey.decide_eq]
  exact eqAt_key k' k A s u v n' hk (by omega)
theorem opd_inK (hu : Γ.X.A.units + 64 < cLine) (hs : SeqD μ y xs) (hk : x.nk = some k) (hd : k.depth ≤ 8) (hxs : ∀ d ∈ xs, ∃ k, d.nk = some k ∧ k.depth ≤ 8) (q : Q (.bl (xs.any fun d => decide (d.nk = some k))) μ) : opd Γ (compareOp .In) x y δ μ Q := fun F σ H vx vy a r1 r2 pins s σ' v u I q1 q2 => by
  obtain ⟨p, vs, rfl, h1, h2⟩ := seqD_run a hs r2
  obtain rfl : u = Value.ref p := q2
  have nx := nested_of I a.sx.sub x hk r1 q1
  have hu2 : Γ.X.A.in1.units + 8 < cLine := by show Γ.X.A.units + 1 + 8 < cLine; omega
  rcases h1 with h1 | h1
  · obtain ⟨its, r, pl, hz⟩ := I.list h1
    obtain ⟨i1, i2⟩ := items_nk I a.sx.sub hxs h2 r
    refine SeqAt.in_listAt (isK s.heap k) pl.isList (fun w hw => eqAt_isK nx hd hu2 (i1 w (by simpa using hw))) ⟨.bl _, H, I, rfl, ?_⟩
    rw [show its.toArray.any (isK s.heap k) = its.any (isK s.heap k) by simp, i2 k]
    exact PostE.here a dpb q
  · obtain ⟨its, r, pl, hz⟩ := I.tuple h1
    obtain ⟨i1, i2⟩ := items_nk I a.sx.sub hxs h2 r
    refine SeqAt.in_tupleAt (isK s.heap k) pl (fun w hw => eqAt_isK nx hd hu2 (i1 w (by simpa using hw))) ⟨.bl _, H, I, rfl, ?_⟩
    rw [show its.toArray.any (isK s.heap k) = its.any (isK s.heap k) by simp, i2 k]
    exact PostE.here a dpb q
theorem opd_notInK (hu : Γ.X.A.units + 64 < cLine) (hs : SeqD μ y xs) (hk : x.nk = some k) (hd : k.depth ≤ 8) (hxs : ∀ d ∈ xs, ∃ k, d.nk = some k ∧ k.depth ≤ 8) (q : Q (.bl (!(xs.any fun d => decide (d.nk = some k)))) μ) : opd Γ (compareOp .NotIn) x y δ μ Q := fun F σ H vx vy a r1 r2 pins s σ' v u I q1 q2 => by
  obtain ⟨p, vs, rfl, h1, h2⟩ := seqD_run a hs r2
  obtain rfl : u = Value.ref p := q2
  have nx := nested_of I a.sx.sub x hk r1 q1
  have hu2 : Γ.X.A.in1.units + 8 < cLine := by show Γ.X.A.units + 1 + 8 < cLine; omega
  rcases h1 with h1 | h1
  · obtain ⟨its, r, pl, hz⟩ := I.list h1
    obtain ⟨i1, i2⟩ := items_nk I a.sx.sub hxs h2 r
    refine SeqAt.notIn_listAt (isK s.heap k) pl.isList (fun w hw => eqAt_isK nx hd hu2 (i1 w (by simpa using hw))) ⟨.bl _, H, I, rfl, ?_⟩
    rw [show its.toArray.any (isK s.heap k) = its.any (isK s.heap k) by simp, i2 k]
    exact PostE.here a dpb q
  · obtain ⟨its, r, pl, hz⟩ := I.tuple h1
    obtain ⟨i1, i2⟩ := items_nk I a.sx.sub hxs h2 r
    refine SeqAt.notIn_tupleAt (isK s.heap k) pl (fun w hw => eqAt_isK nx hd hu2 (i1 w (by simpa using hw))) ⟨.bl _, H, I, rfl, ?_⟩
    rw [show its.toArray.any (isK s.heap k) = its.any (isK s.heap k) by simp, i2 k]
    exact PostE.here a dpb q
end
/-! ### sorts: three bools -/
structure So where
  (p s l : Bool)
  deriving DecidableEq
def So.d (s : So) : D := .tup [.bl s.p, .bl s.s, .bl s.l]
def So.k (s : So) : NestedKey := .tup [.num (if s.p = true then 1 else 0), .num (if s.s = true then 1 else 0), .num (if s.l = true then 1 else 0)]
theorem So.nk (s : So) : s.d.nk = some s.k := by
  simp [So.d, So.k, D.nk, D.nks]
theorem So.depth (s : So) : s.k.depth ≤ 8 := by
  simp [So.k, NestedKey.depth, NestedKey.depthAll]
theorem So.inj {s t : So} (h : s.k = t.k) : s = t := by
  obtain ⟨a, b, c⟩ := s
  obtain ⟨x, y, z⟩ := t
  revert h
  cases a <;> cases b <;> cases c <;> cases x <;> cases y <;> cases z <;> (intro h; first | rfl | (simp [So.k] at h))
theorem So.any (l : List So) (s : So) : ((l.map So.d).any fun d => decide (d.nk = some s.k)) = decide (s ∈ l) := by
  induction l with
  | nil => rfl
  | cons t l ih =>
    rw [List.map_cons, List.any_cons, ih, So.nk]
    by_cases e : s = t
    · subst e; simp
    · have : ¬ (some t.k = some s.k) := fun z => e (So.inj (Option.some.inj z)).symm
      rw [decide_eq_false this]
      simp [e]
theorem So.all (l : List So) : ∀ d ∈ l.map So.d, ∃ k, d.nk = some k ∧ k.depth ≤ 8 := by
  intro d hd
  obtain ⟨s, _, rfl⟩ := List.mem_map.mp hd
  exact ⟨_, s.nk, s.depth⟩
def sosD (l : List So) : Dn := l.map fun s => (s.d, .bl true)
theorem findN_sos (l : List So) (s : So) : (findN (sosD l) s.k).isSome = decide (s ∈ l) := by
  induction l with
  | nil => rfl
  | cons t l ih =>
    have h : findN (sosD (t :: l)) s.k = if t = s then some (.bl true) else findN (sosD l) s.k := by
      unfold sosD findN
      rw [List.map_cons, List.find?_cons]
      by_cases e : t = s
      · subst e; simp [So.nk]
      · have : ¬ (some t.k = some s.k) := fun z => e (So.inj (Option.some.inj z))
        simp [So.nk, this, e]
    rw [h]
    by_cases e : t = s
    · subst e; simp
    · rw [if_neg e, ih]
      simp [fun z : s = t => e z.symm]
      exact fun z => absurd z.symm e
theorem putN_sos (l : List So) (s : So) : putN (sosD l) s.d s.k (.bl true) = sosD (if s ∈ l then l else l ++ [s]) := by
  unfold putN
  rw [findN_sos]
  by_cases e : s ∈ l
  · rw [if_pos (decide_eq_true e), if_pos e]
    unfold sosD
    rw [List.map_map]
    refine List.map_congr_left fun t _ => ?_
    show (if t.d.nk = some s.k then (t.d, D.bl true) else (t.d, D.bl true)) = _
    split <;> rfl
  · rw [if_neg (by simpa using e), if_neg e]
    simp [sosD]
theorem keys_sos (l : List So) : (sosD l).map (·.1) = l.map So.d := by simp [sosD, Function.comp_def]
end PD
/-! PD89: a sum of two lists that is held; of a held list and one that is not. -/
namespace PD
open PySem PySem.Spec PyProof.Rows L2
section
variable {Γ : Ct} {δ : Dl} {μ : Mu} {Q : D → Mu → Prop}
theorem opd_catO {xs ys : List D} (hl : xs.length + ys.length ≤ sizeLine) (q : ∀ g, Q (.ref g) ((g, .lst (xs ++ ys)) :: μ)) : opd Γ (binaryOp .Add) (.lst xs) (.lst ys) δ μ Q := opd_of op_cat fun F σ H vx vy a r1 r2 => by
  obtain ⟨p1, vs, rfl, h1, h2⟩ := dpL r1
  obtain ⟨p2, ws, rfl, h3, h4⟩ := dpL r2
  exact ⟨p1, p2, vs, ws, rfl, rfl, a.sx.sub _ _ h1, a.sx.sub _ _ h3, by rw [← h2.length, ← h4.length]; exact hl, fun p hp => PostE.own (c := .lst (xs ++ ys)) a hp ⟨_, upd_same, h2.append h4⟩ (q p)⟩
end
end PD
namespace LW
open PySem PySem.Spec PyProof.Rows L2 PD
def top (i : Nat) : Stmt := PySem.Challenge.pw_joinsback_k25_sorts_of_records.main.body.getD i (.Pass ⟨0, 0, 0, 0⟩)
abbrev smark_holds : Stmt := top 3
abbrev stest_holds : Stmt := top 4
abbrev srow_done : Stmt := top 5
abbrev ssays_yes : Stmt := top 6
abbrev sdeeds_of : Stmt := top 7
abbrev sis_careless : Stmt := top 8
abbrev smarked : Stmt := top 9
abbrev ssort_behind : Stmt := top 10
abbrev sis_sequence : Stmt := top 13
abbrev skinds_left : Stmt := top 15
abbrev sgoes_on : Stmt := top 16
abbrev sclosed_sorts : Stmt := top 17
abbrev sall_sorts : Stmt := top 18
abbrev sevents_of : Stmt := top 19
abbrev sInvalidRow_init : Stmt := inClass (top 22) 0
abbrev sInvalidStore_init : Stmt := inClass (top 23) 0
abbrev sInvalidText_init : Stmt := inClass (top 24) 0
abbrev sNoRow_init : Stmt := inClass (top 25) 0
abbrev ssorts : Stmt := top 27
abbrev sis_test : Stmt := top 36
abbrev sis_deed : Stmt := top 37
abbrev stold_between : Stmt := top 38
abbrev sRow_init : Stmt := inClass (top 39) 0
abbrev sRow_read : Stmt := inClass (top 39) 1
abbrev sRow_str : Stmt := inClass (top 39) 3
abbrev sStore_init : Stmt := inClass (top 41) 0
abbrev sStore_read : Stmt := inClass (top 41) 1
abbrev sStore_need : Stmt := inClass (top 41) 2
abbrev sStore_len : Stmt := inClass (top 41) 6
abbrev sStore_getitem : Stmt := inClass (top 41) 7
abbrev sStore_eq : Stmt := inClass (top 41) 10
abbrev sStore_str : Stmt := inClass (top 41) 11
abbrev srow_at : Stmt := top 42
abbrev sdeal : Stmt := top 44
abbrev sdraw : Stmt := top 45
abbrev spick : Stmt := top 46
abbrev stext : Stmt := top 47
abbrev stests : Stmt := top 48
abbrev sdeeds : Stmt := top 49
abbrev srow : Stmt := top 50
abbrev sgood : Stmt := top 51
abbrev srows : Stmt := top 52
abbrev srow_for : Stmt := top 53
abbrev sso : Stmt := top 54
abbrev snext_sort : Stmt := top 55
abbrev sL_sorts : Stmt := top 56
abbrev slaw : Stmt := top 57
def dd (at_ : Str × Option Str) (x q : Str) (st : Stmt) (dfl : List He.Dv) (kwd : List (Str × He.Dv)) : He.DefD := ⟨at_, x, q, defArgs st, defBody st, defScope st, dfl, kwd⟩
def dmark_holds : He.DefD := dd ("mark_holds", none) "mark_holds" "mark_holds" smark_holds [] []
def dtest_holds : He.DefD := dd ("test_holds", none) "test_holds" "test_holds" stest_holds [] []
def drow_done : He.DefD := dd ("row_done", none) "row_done" "row_done" srow_done [] []
def dsays_yes : He.DefD := dd ("says_yes", none) "says_yes" "says_yes" ssays_yes [] []
def ddeeds_of : He.DefD := dd ("deeds_of", none) "deeds_of" "deeds_of" sdeeds_of [] []
def dis_careless : He.DefD := dd ("is_careless", none) "is_careless" "is_careless" sis_careless [] []
def dmarked : He.DefD := dd ("marked", none) "marked" "marked" smarked [] []
def dsort_behind : He.DefD := dd ("sort_behind", none) "sort_behind" "sort_behind" ssort_behind [] []
def dis_sequence : He.DefD := dd ("is_sequence", none) "is_sequence" "is_sequence" sis_sequence [] []
def dkinds_left : He.DefD := dd ("kinds_left", none) "kinds_left" "kinds_left" skinds_left [] []
def dgoes_on : He.DefD := dd ("goes_on", none) "goes_on" "goes_on" sgoes_on [] []
def dclosed_sorts : He.DefD := dd ("closed_sorts", none) "closed_sorts" "closed_sorts" sclosed_sorts [] []
def dall_sorts : He.DefD := dd ("all_sorts", none) "all_sorts" "all_sorts" sall_sorts [] []
def devents_of : He.DefD := dd ("events_of", none) "events_of" "events_of" sevents_of [] []
def dInvalidRow_init : He.DefD := dd ("InvalidRow", some "__init__") "__init__" "InvalidRow.__init__" sInvalidRow_init [] []
def dInvalidStore_init : He.DefD := dd ("InvalidStore", some "__init__") "__init__" "InvalidStore.__init__" sInvalidStore_init [] []
def dInvalidText_init : He.DefD := dd ("InvalidText", some "__init__") "__init__" "InvalidText.__init__" sInvalidText_init [] []
def dNoRow_init : He.DefD := dd ("NoRow", some "__init__") "__init__" "NoRow.__init__" sNoRow_init [] []
def dsorts : He.DefD := dd ("sorts", none) "sorts" "sorts" ssorts [] [("without", .adr (kwAt ("sorts", none) "without"))]
def dis_test : He.DefD := dd ("is_test", none) "is_test" "is_test" sis_test [] []
def dis_deed : He.DefD := dd ("is_deed", none) "is_deed" "is_deed" sis_deed [] []
def dtold_between : He.DefD := dd ("told_between", none) "told_between" "told_between" stold_between [] []
def dRow_init : He.DefD := dd ("Row", some "__init__") "__init__" "Row.__init__" sRow_init [.adr (He.dflAt ("Row", some "__init__") 0), .adr (He.dflAt ("Row", some "__init__") 1), .bl true] []
def dRow_str : He.DefD := dd ("Row", some "__str__") "__str__" "Row.__str__" sRow_str [] []
def dStore_init : He.DefD := dd ("Store", some "__init__") "__init__" "Store.__init__" sStore_init [.adr (He.dflAt ("Store", some "__init__") 0)] []
def dStore_need : He.DefD := dd ("Store", some "need") "need" "Store.need" sStore_need [] []
def dStore_len : He.DefD := dd ("Store", some "__len__") "__len__" "Store.__len__" sStore_len [] []
def dStore_getitem : He.DefD := dd ("Store", some "__getitem__") "__getitem__" "Store.__getitem__" sStore_getitem [] []
def dStore_eq : He.DefD := dd ("Store", some "__eq__") "__eq__" "Store.__eq__" sStore_eq [] []
def dStore_str : He.DefD := dd ("Store", some "__str__") "__str__" "Store.__str__" sStore_str [] []
def drow_at : He.DefD := dd ("row_at", none) "row_at" "row_at" srow_at [] []
def ddeal : He.DefD := dd ("_law_deal", none) "_law_deal" "_law_deal" sdeal [] []
def ddraw : He.DefD := dd ("_law_draw", none) "_law_draw" "_law_draw" sdraw [] []
def dpick : He.DefD := dd ("_law_pick", none) "_law_pick" "_law_pick" spick [] []
def dtext : He.DefD := dd ("_law_text", none) "_law_text" "_law_text" stext [] []
def dtests : He.DefD := dd ("_law_tests", none) "_law_tests" "_law_tests" stests [] []
def ddeeds : He.DefD := dd ("_law_deeds", none) "_law_deeds" "_law_deeds" sdeeds [] []
def drow : He.DefD := dd ("_law_row", none) "_law_row" "_law_row" srow [] []
def dgood : He.DefD := dd ("_law_good", none) "_law_good" "_law_good" sgood [] []
def drows : He.DefD := dd ("_law_rows", none) "_law_rows" "_law_rows" srows [] []
def drow_for : He.DefD := dd ("_law_row_for", none) "_law_row_for" "_law_row_for" srow_for [] []
def dso : He.DefD := dd ("_law_so", none) "_law_so" "_law_so" sso [] []
def dnext_sort : He.DefD := dd ("_law_next_sort", none) "_law_next_sort" "_law_next_sort" snext_sort [] []
def dL_sorts : He.DefD := dd ("_law_sorts", none) "_law_sorts" "_law_sorts" sL_sorts [] []
def dlaw : He.DefD := dd ("law", none) "law" "law" slaw [] []
def dxRow_read : He5.DefA := ⟨fun K => He5.wf K (He.ga K "Row") "classmethod" "read", "read", "Row.read", defArgs sRow_read, defBody sRow_read, defScope sRow_read, [], []⟩
def dxStore_read : He5.DefA := ⟨fun K => He5.wf K (He.ga K "Store") "classmethod" "read", "read", "Store.read", defArgs sStore_read, defBody sStore_read, defScope sStore_read, [], []⟩
def fx : List He5.DefA := [dxRow_read, dxStore_read]
def fn : List He.DefD := [dmark_holds, dtest_holds, drow_done, dsays_yes, ddeeds_of, dis_careless, dmarked, dsort_behind, dis_sequence, dkinds_left, dgoes_on, dclosed_sorts, dall_sorts, devents_of, dInvalidRow_init, dInvalidStore_init, dInvalidText_init, dNoRow_init, dsorts, dis_test, dis_deed, dtold_between, dRow_init, dRow_str, dStore_init, dStore_need, dStore_len, dStore_getitem, dStore_eq, dStore_str, drow_at, ddeal, ddraw, dpick, dtext, dtests, ddeeds, drow, dgood, drows, drow_for, dso, dnext_sort, dL_sorts, dlaw]
def fa0 : List He.Fa := [.glo "FRESH", .glo "mark_holds", .glo "test_holds", .glo "row_done", .glo "says_yes", .glo "deeds_of", .glo "is_careless", .glo "marked", .glo "sort_behind", .glo "KINDS", .glo "is_sequence", .glo "kinds_left"]
def fa1 : List He.Fa := [.glo "goes_on", .glo "closed_sorts", .glo "all_sorts", .glo "events_of", .glo "InvalidRow", .glo "InvalidStore", .glo "InvalidText", .glo "NoRow", .glo "sorts", .glo "OF_NAMED", .glo "OF_JOINS", .glo "DEEDS"]
def fa2 : List He.Fa := [.glo "is_test", .glo "is_deed", .glo "told_between", .glo "Row", .glo "Store", .glo "row_at", .glo "_law_deal", .glo "_law_draw", .glo "_law_pick", .glo "_law_text", .glo "_law_tests", .glo "_law_deeds"]
def fa3 : List He.Fa := [.glo "_law_row", .glo "_law_good", .glo "_law_rows", .glo "_law_row_for", .glo "_law_so", .glo "_law_next_sort", .glo "_law_sorts", .glo "law", .free "abs", .free "all", .free "bool", .free "enumerate"]
def fa4 : List He.Fa := [.free "int", .free "isinstance", .free "len", .free "list", .free "range", .free "repr", .free "str", .free "tuple", .cls "Course", .noat "Course" "rows", .cls "Row", .noat "Row" "kind"]
def fa5 : List He.Fa := [.noat "Row" "tests", .noat "Row" "deeds", .noat "Row" "answer", .mkr "Row", .meth "Row" "__str__", .cls "Store", .noat "Store" "rows", .noat "Store" "deeds", .mkr "Store", .meth "Store" "need", .meth "Store" "__str__"]
def fa : List He.Fa := fa0 ++ (fa1 ++ (fa2 ++ (fa3 ++ (fa4 ++ (fa5)))))
def cst_KINDS : List Str := ["new", "join", "back", "sweep"]
def cst_OF_NAMED : List Str := ["points", "struck"]
def cst_OF_JOINS : List Str := ["loser points", "loser struck", "winner points", "winner struck"]
def cst_DEEDS : List (Str × List Str) := [("new", ["list", "lead", "sign"]), ("join", ["move", "note", "mark", "point", "turn", "bare", "empty", "strike", "wake"]), ("back", ["recall", "forget", "bare", "empty", "strike", "wake"]), ("sweep", ["forget", "bare", "empty", "strike", "wake"])]
def cst_FRESH : List He.Dv := [.bl false, .bl false, .bl true]
def exs0 : List (PySem.W.Frag → Bool) := [fun K => tupAB K (He.ga K "KINDS") (strDv cst_KINDS), fun K => tupAB K (He.ga K "OF_NAMED") (strDv cst_OF_NAMED), fun K => tupAB K (He.ga K "OF_JOINS") (strDv cst_OF_JOINS), fun K => kdB K (He.ga K "DEEDS") cst_DEEDS, fun K => tupAB K (kwAt ("sorts", none) "without" K) [], fun K => tupAB K (He.dflAt ("Row", some "__init__") 0 K) [], fun K => tupAB K (He.dflAt ("Row", some "__init__") 1 K) [], fun K => tupAB K (He.dflAt ("Store", some "__init__") 0 K) [], fun K => tupAB K (He.ga K "FRESH") cst_FRESH, fun K => clsTB K (He.ga K "Row"), fun K => clsTB K (He.ga K "Store"), fun K => oexgB "ValueError.__new__" tlVE K (He.ga K "InvalidRow")]
def exs1 : List (PySem.W.Frag → Bool) := [fun K => He.eqO (PySem.W.findIn K (.ref (He.ga K "InvalidRow")) "word") (some none), fun K => He.eqO (PySem.W.findIn K (.ref (He.ga K "InvalidRow")) "__init__") (some (some (.ref (He.ma K (He.ga K "InvalidRow") "__init__")))), fun K => decide (PySem.W.typeIn K (.ref (He.ma K (He.ga K "InvalidRow") "__init__")) = some (.type "function")), fun K => decide (PySem.W.exmOne K (.ref (He.ga K "InvalidRow")) (.ref (He.ga K "InvalidRow")) = some true), fun K => oexgB "ValueError.__new__" tlVE K (He.ga K "InvalidStore"), fun K => He.eqO (PySem.W.findIn K (.ref (He.ga K "InvalidStore")) "word") (some none), fun K => He.eqO (PySem.W.findIn K (.ref (He.ga K "InvalidStore")) "__init__") (some (some (.ref (He.ma K (He.ga K "InvalidStore") "__init__")))), fun K => decide (PySem.W.typeIn K (.ref (He.ma K (He.ga K "InvalidStore") "__init__")) = some (.type "function")), fun K => oexgB "ValueError.__new__" tlVE K (He.ga K "InvalidText"), fun K => He.eqO (PySem.W.findIn K (.ref (He.ga K "InvalidText")) "at") (some none), fun K => He.eqO (PySem.W.findIn K (.ref (He.ga K "InvalidText")) "__init__") (some (some (.ref (He.ma K (He.ga K "InvalidText") "__init__")))), fun K => decide (PySem.W.typeIn K (.ref (He.ma K (He.ga K "InvalidText") "__init__")) = some (.type "function"))]
def exs2 : List (PySem.W.Frag → Bool) := [fun K => decide (PySem.W.exmOne K (.ref (He.ga K "InvalidText")) (.ref (He.ga K "InvalidText")) = some true), fun K => oexgB "IndexError.__new__" tlIE K (He.ga K "NoRow"), fun K => He.eqO (PySem.W.findIn K (.ref (He.ga K "NoRow")) "at") (some none), fun K => He.eqO (PySem.W.findIn K (.ref (He.ga K "NoRow")) "__init__") (some (some (.ref (He.ma K (He.ga K "NoRow") "__init__")))), fun K => decide (PySem.W.typeIn K (.ref (He.ma K (He.ga K "NoRow") "__init__")) = some (.type "function")), fun K => cmB K (He.ga K "Row") "read", fun K => cmB K (He.ga K "Store") "read"]
def exs : List (PySem.W.Frag → Bool) := exs0 ++ (exs1 ++ (exs2))
def ex (K : PySem.W.Frag) : Bool := exs.all fun f => f K
def ts : List He.Tab := [(fun K => He.ga K "DEEDS", ["new", "join", "back", "sweep"])]
abbrev T0 (w : World) (K : PySem.W.Frag) (mg : Str → Option Value) : Prop := TXP fa fn fx ts ex w K mg
section
variable {w : World} {K : PySem.W.Frag} {mg : Str → Option Value} (T : T0 w K mg)
include T
theorem g_FRESH : mg "FRESH" = some (.ref (He.ga K "FRESH")) := T.g 0
theorem g_mark_holds : mg "mark_holds" = some (.ref (He.ga K "mark_holds")) := T.g 1
theorem g_test_holds : mg "test_holds" = some (.ref (He.ga K "test_holds")) := T.g 2
theorem g_row_done : mg "row_done" = some (.ref (He.ga K "row_done")) := T.g 3
theorem g_says_yes : mg "says_yes" = some (.ref (He.ga K "says_yes")) := T.g 4
theorem g_deeds_of : mg "deeds_of" = some (.ref (He.ga K "deeds_of")) := T.g 5
theorem g_is_careless : mg "is_careless" = some (.ref (He.ga K "is_careless")) := T.g 6
theorem g_marked : mg "marked" = some (.ref (He.ga K "marked")) := T.g 7
theorem g_sort_behind : mg "sort_behind" = some (.ref (He.ga K "sort_behind")) := T.g 8
theorem g_KINDS : mg "KINDS" = some (.ref (He.ga K "KINDS")) := T.g 9
theorem g_is_sequence : mg "is_sequence" = some (.ref (He.ga K "is_sequence")) := T.g 10
theorem g_kinds_left : mg "kinds_left" = some (.ref (He.ga K "kinds_left")) := T.g 11
theorem g_goes_on : mg "goes_on" = some (.ref (He.ga K "goes_on")) := T.g 12
theorem g_closed_sorts : mg "closed_sorts" = some (.ref (He.ga K "closed_sorts")) := T.g 13
theorem g_all_sorts : mg "all_sorts" = some (.ref (He.ga K "all_sorts")) := T.g 14
theorem g_events_of : mg "events_of" = some (.ref (He.ga K "events_of")) := T.g 15
theorem g_InvalidRow : mg "InvalidRow" = some (.ref (He.ga K "InvalidRow")) := T.g 16
theorem g_InvalidStore : mg "InvalidStore" = some (.ref (He.ga K "InvalidStore")) := T.g 17
theorem g_InvalidText : mg "InvalidText" = some (.ref (He.ga K "InvalidText")) := T.g 18
theorem g_NoRow : mg "NoRow" = some (.ref (He.ga K "NoRow")) := T.g 19
theorem g_sorts : mg "sorts" = some (.ref (He.ga K "sorts")) := T.g 20
theorem g_OF_NAMED : mg "OF_NAMED" = some (.ref (He.ga K "OF_NAMED")) := T.g 21
theorem g_OF_JOINS : mg "OF_JOINS" = some (.ref (He.ga K "OF_JOINS")) := T.g 22
theorem g_DEEDS : mg "DEEDS" = some (.ref (He.ga K "DEEDS")) := T.g 23
theorem g_is_test : mg "is_test" = some (.ref (He.ga K "is_test")) := T.g 24
theorem g_is_deed : mg "is_deed" = some (.ref (He.ga K "is_deed")) := T.g 25
theorem g_told_between : mg "told_between" = some (.ref (He.ga K "told_between")) := T.g 26
theorem g_Row : mg "Row" = some (.ref (He.ga K "Row")) := T.g 27
theorem g_Store : mg "Store" = some (.ref (He.ga K "Store")) := T.g 28
theorem g_row_at : mg "row_at" = some (.ref (He.ga K "row_at")) := T.g 29
theorem g_deal : mg "_law_deal" = some (.ref (He.ga K "_law_deal")) := T.g 30
theorem g_draw : mg "_law_draw" = some (.ref (He.ga K "_law_draw")) := T.g 31
theorem g_pick : mg "_law_pick" = some (.ref (He.ga K "_law_pick")) := T.g 32
theorem g_text : mg "_law_text" = some (.ref (He.ga K "_law_text")) := T.g 33
theorem g_tests : mg "_law_tests" = some (.ref (He.ga K "_law_tests")) := T.g 34
theorem g_deeds : mg "_law_deeds" = some (.ref (He.ga K "_law_deeds")) := T.g 35
theorem g_row : mg "_law_row" = some (.ref (He.ga K "_law_row")) := T.g 36
theorem g_good : mg "_law_good" = some (.ref (He.ga K "_law_good")) := T.g 37
theorem g_rows : mg "_law_rows" = some (.ref (He.ga K "_law_rows")) := T.g 38
theorem g_row_for : mg "_law_row_for" = some (.ref (He.ga K "_law_row_for")) := T.g 39
theorem g_so : mg "_law_so" = some (.ref (He.ga K "_law_so")) := T.g 40
theorem g_next_sort : mg "_law_next_sort" = some (.ref (He.ga K "_law_next_sort")) := T.g 41
theorem g_L_sorts : mg "_law_sorts" = some (.ref (He.ga K "_law_sorts")) := T.g 42
theorem g_law : mg "law" = some (.ref (He.ga K "law")) := T.g 43
theorem b_abs : mg "abs" = none := T.f 44
theorem b_all : mg "all" = none := T.f 45
theorem b_bool : mg "bool" = none := T.f 46
theorem b_enumerate : mg "enumerate" = none := T.f 47
theorem b_int : mg "int" = none := T.f 48
theorem b_isinstance : mg "isinstance" = none := T.f 49
theorem b_len : mg "len" = none := T.f 50
theorem b_list : mg "list" = none := T.f 51
theorem b_range : mg "range" = none := T.f 52
theorem b_repr : mg "repr" = none := T.f 53
theorem b_str : mg "str" = none := T.f 54
theorem b_tuple : mg "tuple" = none := T.f 55
theorem c_Course : Cls K (He.ga K "Course") := He.cls_ok (T.a 56 (f := .cls "Course"))
theorem n_Course_rows : NoAttr K (He.ga K "Course") "rows" := He.noat_ok (T.a 57 (f := .noat "Course" "rows"))
theorem c_Row : Cls K (He.ga K "Row") := He.cls_ok (T.a 58 (f := .cls "Row"))
theorem n_Row_kind : NoAttr K (He.ga K "Row") "kind" := He.noat_ok (T.a 59 (f := .noat "Row" "kind"))
theorem n_Row_tests : NoAttr K (He.ga K "Row") "tests" := He.noat_ok (T.a 60 (f := .noat "Row" "tests"))
theorem n_Row_deeds : NoAttr K (He.ga K "Row") "deeds" := He.noat_ok (T.a 61 (f := .noat "Row" "deeds"))
theorem n_Row_answer : NoAttr K (He.ga K "Row") "answer" := He.noat_ok (T.a 62 (f := .noat "Row" "answer"))
theorem k_Row : Mk K (He.ga K "Row") (He.ma K (He.ga K "Row") "__init__") := He.mkr_ok (T.a 63 (f := .mkr "Row"))
theorem c_Store : Cls K (He.ga K "Store") := He.cls_ok (T.a 65 (f := .cls "Store"))
theorem n_Store_rows : NoAttr K (He.ga K "Store") "rows" := He.noat_ok (T.a 66 (f := .noat "Store" "rows"))
theorem n_Store_deeds : NoAttr K (He.ga K "Store") "deeds" := He.noat_ok (T.a 67 (f := .noat "Store" "deeds"))
theorem k_Store : Mk K (He.ga K "Store") (He.ma K (He.ga K "Store") "__init__") := He.mkr_ok (T.a 68 (f := .mkr "Store"))
theorem m_Store_need : Meth K (He.ga K "Store") "need" (He.ma K (He.ga K "Store") "need") := He.meth_ok (T.a 69 (f := .meth "Store" "need"))
theorem t_KINDS : tupAB K (He.ga K "KINDS") (strDv cst_KINDS) = true := (allK (f := fun K => tupAB K (He.ga K "KINDS") (strDv cst_KINDS)) T.more 0)
theorem t_OF_NAMED : tupAB K (He.ga K "OF_NAMED") (strDv cst_OF_NAMED) = true := (allK (f := fun K => tupAB K (He.ga K "OF_NAMED") (strDv cst_OF_NAMED)) T.more 1)
theorem t_OF_JOINS : tupAB K (He.ga K "OF_JOINS") (strDv cst_OF_JOINS) = true := (allK (f := fun K => tupAB K (He.ga K "OF_JOINS") (strDv cst_OF_JOINS)) T.more 2)
theorem t_DEEDS : kdB K (He.ga K "DEEDS") cst_DEEDS = true := (allK (f := fun K => kdB K (He.ga K "DEEDS") cst_DEEDS) T.more 3)
theorem t_sorts_without : tupAB K (kwAt ("sorts", none) "without" K) [] = true := (allK (f := fun K => tupAB K (kwAt ("sorts", none) "without" K) []) T.more 4)
theorem t_Store_init_0 : tupAB K (He.dflAt ("Store", some "__init__") 0 K) [] = true := (allK (f := fun K => tupAB K (He.dflAt ("Store", some "__init__") 0 K) []) T.more 7)
theorem t_FRESH : tupAB K (He.ga K "FRESH") cst_FRESH = true := (allK (f := fun K => tupAB K (He.ga K "FRESH") cst_FRESH) T.more 8)
theorem ct_Row : ClsT K (He.ga K "Row") := clsT_ok (c_Row T) (allK (f := fun K => clsTB K (He.ga K "Row")) T.more 9)
theorem xg_InvalidRow : OexG "ValueError.__new__" tlVE K (He.ga K "InvalidRow") := oexgB_ok (allK (f := fun K => oexgB "ValueError.__new__" tlVE K (He.ga K "InvalidRow")) T.more 11)
theorem xn_InvalidRow : PySem.W.findIn K (.ref (He.ga K "InvalidRow")) "word" = some none := He.eqO_ok (allK (f := fun K => He.eqO (PySem.W.findIn K (.ref (He.ga K "InvalidRow")) "word") (some none)) T.more 12)
theorem xi_InvalidRow : PySem.W.findIn K (.ref (He.ga K "InvalidRow")) "__init__" = some (some (.ref (He.ma K (He.ga K "InvalidRow") "__init__"))) := He.eqO_ok (allK (f := fun K => He.eqO (PySem.W.findIn K (.ref (He.ga K "InvalidRow")) "__init__") (some (some (.ref (He.ma K (He.ga K "InvalidRow") "__init__"))))) T.more 13)
theorem xt_InvalidRow : PySem.W.typeIn K (.ref (He.ma K (He.ga K "InvalidRow") "__init__")) = some (.type "function") := of_decide_eq_true (allK (f := fun K => decide (PySem.W.typeIn K (.ref (He.ma K (He.ga K "InvalidRow") "__init__")) = some (.type "function"))) T.more 14)
theorem xm_InvalidRow_InvalidRow : PySem.W.exmOne K (.ref (He.ga K "InvalidRow")) (.ref (He.ga K "InvalidRow")) = some true := of_decide_eq_true (allK (f := fun K => decide (PySem.W.exmOne K (.ref (He.ga K "InvalidRow")) (.ref (He.ga K "InvalidRow")) = some true)) T.more 15)
theorem xg_InvalidStore : OexG "ValueError.__new__" tlVE K (He.ga K "InvalidStore") := oexgB_ok (allK (f := fun K => oexgB "ValueError.__new__" tlVE K (He.ga K "InvalidStore")) T.more 16)
theorem xn_InvalidStore : PySem.W.findIn K (.ref (He.ga K "InvalidStore")) "word" = some none := He.eqO_ok (allK (f := fun K => He.eqO (PySem.W.findIn K (.ref (He.ga K "InvalidStore")) "word") (some none)) T.more 17)
theorem xi_InvalidStore : PySem.W.findIn K (.ref (He.ga K "InvalidStore")) "__init__" = some (some (.ref (He.ma K (He.ga K "InvalidStore") "__init__"))) := He.eqO_ok (allK (f := fun K => He.eqO (PySem.W.findIn K (.ref (He.ga K "InvalidStore")) "__init__") (some (some (.ref (He.ma K (He.ga K "InvalidStore") "__init__"))))) T.more 18)
theorem xt_InvalidStore : PySem.W.typeIn K (.ref (He.ma K (He.ga K "InvalidStore") "__init__")) = some (.type "function") := of_decide_eq_true (allK (f := fun K => decide (PySem.W.typeIn K (.ref (He.ma K (He.ga K "InvalidStore") "__init__")) = some (.type "function"))) T.more 19)
theorem xg_InvalidText : OexG "ValueError.__new__" tlVE K (He.ga K "InvalidText") := oexgB_ok (allK (f := fun K => oexgB "ValueError.__new__" tlVE K (He.ga K "InvalidText")) T.more 20)
theorem xn_InvalidText : PySem.W.findIn K (.ref (He.ga K "InvalidText")) "at" = some none := He.eqO_ok (allK (f := fun K => He.eqO (PySem.W.findIn K (.ref (He.ga K "InvalidText")) "at") (some none)) T.more 21)
theorem xi_InvalidText : PySem.W.findIn K (.ref (He.ga K "InvalidText")) "__init__" = some (some (.ref (He.ma K (He.ga K "InvalidText") "__init__"))) := He.eqO_ok (allK (f := fun K => He.eqO (PySem.W.findIn K (.ref (He.ga K "InvalidText")) "__init__") (some (some (.ref (He.ma K (He.ga K "InvalidText") "__init__"))))) T.more 22)
theorem xt_InvalidText : PySem.W.typeIn K (.ref (He.ma K (He.ga K "InvalidText") "__init__")) = some (.type "function") := of_decide_eq_true (allK (f := fun K => decide (PySem.W.typeIn K (.ref (He.ma K (He.ga K "InvalidText") "__init__")) = some (.type "function"))) T.more 23)
theorem xm_InvalidText_InvalidText : PySem.W.exmOne K (.ref (He.ga K "InvalidText")) (.ref (He.ga K "InvalidText")) = some true := of_decide_eq_true (allK (f := fun K => decide (PySem.W.exmOne K (.ref (He.ga K "InvalidText")) (.ref (He.ga K "InvalidText")) = some true)) T.more 24)
theorem xg_NoRow : OexG "IndexError.__new__" tlIE K (He.ga K "NoRow") := oexgB_ok (allK (f := fun K => oexgB "IndexError.__new__" tlIE K (He.ga K "NoRow")) T.more 25)
theorem xn_NoRow : PySem.W.findIn K (.ref (He.ga K "NoRow")) "at" = some none := He.eqO_ok (allK (f := fun K => He.eqO (PySem.W.findIn K (.ref (He.ga K "NoRow")) "at") (some none)) T.more 26)
theorem xi_NoRow : PySem.W.findIn K (.ref (He.ga K "NoRow")) "__init__" = some (some (.ref (He.ma K (He.ga K "NoRow") "__init__"))) := He.eqO_ok (allK (f := fun K => He.eqO (PySem.W.findIn K (.ref (He.ga K "NoRow")) "__init__") (some (some (.ref (He.ma K (He.ga K "NoRow") "__init__"))))) T.more 27)
theorem xt_NoRow : PySem.W.typeIn K (.ref (He.ma K (He.ga K "NoRow") "__init__")) = some (.type "function") := of_decide_eq_true (allK (f := fun K => decide (PySem.W.typeIn K (.ref (He.ma K (He.ga K "NoRow") "__init__")) = some (.type "function"))) T.more 28)
theorem cm_Row_read : CmD K (He.ga K "Row") "read" (He5.wf K (He.ga K "Row") "classmethod" "read") := cmB_ok (allK (f := fun K => cmB K (He.ga K "Row") "read") T.more 29)
theorem cm_Store_read : CmD K (He.ga K "Store") "read" (He5.wf K (He.ga K "Store") "classmethod" "read") := cmB_ok (allK (f := fun K => cmB K (He.ga K "Store") "read") T.more 30)
theorem k_DEEDS : ∃ es n, KDict K w (He.ga K "DEEDS") es n := T.tab 0 _ rfl
theorem f_mark_holds : ∃ fd, FunD K "mark_holds" "mark_holds" (defArgs smark_holds) (defBody smark_holds) (defScope smark_holds) (dmark_holds.dvs K) (dmark_holds.kws K) (He.fAd K dmark_holds.at_) fd := T.d 0 (d := dmark_holds)
theorem f_test_holds : ∃ fd, FunD K "test_holds" "test_holds" (defArgs stest_holds) (defBody stest_holds) (defScope stest_holds) (dtest_holds.dvs K) (dtest_holds.kws K) (He.fAd K dtest_holds.at_) fd := T.d 1 (d := dtest_holds)
theorem f_row_done : ∃ fd, FunD K "row_done" "row_done" (defArgs srow_done) (defBody srow_done) (defScope srow_done) (drow_done.dvs K) (drow_done.kws K) (He.fAd K drow_done.at_) fd := T.d 2 (d := drow_done)
theorem f_says_yes : ∃ fd, FunD K "says_yes" "says_yes" (defArgs ssays_yes) (defBody ssays_yes) (defScope ssays_yes) (dsays_yes.dvs K) (dsays_yes.kws K) (He.fAd K dsays_yes.at_) fd := T.d 3 (d := dsays_yes)
theorem f_deeds_of : ∃ fd, FunD K "deeds_of" "deeds_of" (defArgs sdeeds_of) (defBody sdeeds_of) (defScope sdeeds_of) (ddeeds_of.dvs K) (ddeeds_of.kws K) (He.fAd K ddeeds_of.at_) fd := T.d 4 (d := ddeeds_of)
theorem f_is_careless : ∃ fd, FunD K "is_careless" "is_careless" (defArgs sis_careless) (defBody sis_careless) (defScope sis_careless) (dis_careless.dvs K) (dis_careless.kws K) (He.fAd K dis_careless.at_) fd := T.d 5 (d := dis_careless)
theorem f_marked : ∃ fd, FunD K "marked" "marked" (defArgs smarked) (defBody smarked) (defScope smarked) (dmarked.dvs K) (dmarked.kws K) (He.fAd K dmarked.at_) fd := T.d 6 (d := dmarked)
theorem f_sort_behind : ∃ fd, FunD K "sort_behind" "sort_behind" (defArgs ssort_behind) (defBody ssort_behind) (defScope ssort_behind) (dsort_behind.dvs K) (dsort_behind.kws K) (He.fAd K dsort_behind.at_) fd := T.d 7 (d := dsort_behind)
theorem f_is_sequence : ∃ fd, FunD K "is_sequence" "is_sequence" (defArgs sis_sequence) (defBody sis_sequence) (defScope sis_sequence) (dis_sequence.dvs K) (dis_sequence.kws K) (He.fAd K dis_sequence.at_) fd := T.d 8 (d := dis_sequence)
theorem f_kinds_left : ∃ fd, FunD K "kinds_left" "kinds_left" (defArgs skinds_left) (defBody skinds_left) (defScope skinds_left) (dkinds_left.dvs K) (dkinds_left.kws K) (He.fAd K dkinds_left.at_) fd := T.d 9 (d := dkinds_left)
theorem f_goes_on : ∃ fd, FunD K "goes_on" "goes_on" (defArgs sgoes_on) (defBody sgoes_on) (defScope sgoes_on) (dgoes_on.dvs K) (dgoes_on.kws K) (He.fAd K dgoes_on.at_) fd := T.d 10 (d := dgoes_on)
theorem f_closed_sorts : ∃ fd, FunD K "closed_sorts" "closed_sorts" (defArgs sclosed_sorts) (defBody sclosed_sorts) (defScope sclosed_sorts) (dclosed_sorts.dvs K) (dclosed_sorts.kws K) (He.fAd K dclosed_sorts.at_) fd := T.d 11 (d := dclosed_sorts)
theorem f_all_sorts : ∃ fd, FunD K "all_sorts" "all_sorts" (defArgs sall_sorts) (defBody sall_sorts) (defScope sall_sorts) (dall_sorts.dvs K) (dall_sorts.kws K) (He.fAd K dall_sorts.at_) fd := T.d 12 (d := dall_sorts)
theorem f_events_of : ∃ fd, FunD K "events_of" "events_of" (defArgs sevents_of) (defBody sevents_of) (defScope sevents_of) (devents_of.dvs K) (devents_of.kws K) (He.fAd K devents_of.at_) fd := T.d 13 (d := devents_of)
theorem f_InvalidRow_init : ∃ fd, FunD K "__init__" "InvalidRow.__init__" (defArgs sInvalidRow_init) (defBody sInvalidRow_init) (defScope sInvalidRow_init) (dInvalidRow_init.dvs K) (dInvalidRow_init.kws K) (He.fAd K dInvalidRow_init.at_) fd := T.d 14 (d := dInvalidRow_init)
theorem f_InvalidStore_init : ∃ fd, FunD K "__init__" "InvalidStore.__init__" (defArgs sInvalidStore_init) (defBody sInvalidStore_init) (defScope sInvalidStore_init) (dInvalidStore_init.dvs K) (dInvalidStore_init.kws K) (He.fAd K dInvalidStore_init.at_) fd := T.d 15 (d := dInvalidStore_init)
theorem f_InvalidText_init : ∃ fd, FunD K "__init__" "InvalidText.__init__" (defArgs sInvalidText_init) (defBody sInvalidText_init) (defScope sInvalidText_init) (dInvalidText_init.dvs K) (dInvalidText_init.kws K) (He.fAd K dInvalidText_init.at_) fd := T.d 16 (d := dInvalidText_init)
theorem f_NoRow_init : ∃ fd, FunD K "__init__" "NoRow.__init__" (defArgs sNoRow_init) (defBody sNoRow_init) (defScope sNoRow_init) (dNoRow_init.dvs K) (dNoRow_init.kws K) (He.fAd K dNoRow_init.at_) fd := T.d 17 (d := dNoRow_init)
theorem f_sorts : ∃ fd, FunD K "sorts" "sorts" (defArgs ssorts) (defBody ssorts) (defScope ssorts) (dsorts.dvs K) (dsorts.kws K) (He.fAd K dsorts.at_) fd := T.d 18 (d := dsorts)
theorem f_is_test : ∃ fd, FunD K "is_test" "is_test" (defArgs sis_test) (defBody sis_test) (defScope sis_test) (dis_test.dvs K) (dis_test.kws K) (He.fAd K dis_test.at_) fd := T.d 19 (d := dis_test)
theorem f_is_deed : ∃ fd, FunD K "is_deed" "is_deed" (defArgs sis_deed) (defBody sis_deed) (defScope sis_deed) (dis_deed.dvs K) (dis_deed.kws K) (He.fAd K dis_deed.at_) fd := T.d 20 (d := dis_deed)
theorem f_told_between : ∃ fd, FunD K "told_between" "told_between" (defArgs stold_between) (defBody stold_between) (defScope stold_between) (dtold_between.dvs K) (dtold_between.kws K) (He.fAd K dtold_between.at_) fd := T.d 21 (d := dtold_between)
theorem f_Row_init : ∃ fd, FunD K "__init__" "Row.__init__" (defArgs sRow_init) (defBody sRow_init) (defScope sRow_init) (dRow_init.dvs K) (dRow_init.kws K) (He.fAd K dRow_init.at_) fd := T.d 22 (d := dRow_init)
theorem f_Store_init : ∃ fd, FunD K "__init__" "Store.__init__" (defArgs sStore_init) (defBody sStore_init) (defScope sStore_init) (dStore_init.dvs K) (dStore_init.kws K) (He.fAd K dStore_init.at_) fd := T.d 24 (d := dStore_init)
theorem f_Store_need : ∃ fd, FunD K "need" "Store.need" (defArgs sStore_need) (defBody sStore_need) (defScope sStore_need) (dStore_need.dvs K) (dStore_need.kws K) (He.fAd K dStore_need.at_) fd := T.d 25 (d := dStore_need)
theorem f_row_at : ∃ fd, FunD K "row_at" "row_at" (defArgs srow_at) (defBody srow_at) (defScope srow_at) (drow_at.dvs K) (drow_at.kws K) (He.fAd K drow_at.at_) fd := T.d 30 (d := drow_at)
theorem f_deal : ∃ fd, FunD K "_law_deal" "_law_deal" (defArgs sdeal) (defBody sdeal) (defScope sdeal) (ddeal.dvs K) (ddeal.kws K) (He.fAd K ddeal.at_) fd := T.d 31 (d := ddeal)
theorem f_draw : ∃ fd, FunD K "_law_draw" "_law_draw" (defArgs sdraw) (defBody sdraw) (defScope sdraw) (ddraw.dvs K) (ddraw.kws K) (He.fAd K ddraw.at_) fd := T.d 32 (d := ddraw)
theorem f_pick : ∃ fd, FunD K "_law_pick" "_law_pick" (defArgs spick) (defBody spick) (defScope spick) (dpick.dvs K) (dpick.kws K) (He.fAd K dpick.at_) fd := T.d 33 (d := dpick)
theorem f_text : ∃ fd, FunD K "_law_text" "_law_text" (defArgs stext) (defBody stext) (defScope stext) (dtext.dvs K) (dtext.kws K) (He.fAd K dtext.at_) fd := T.d 34 (d := dtext)
theorem f_tests : ∃ fd, FunD K "_law_tests" "_law_tests" (defArgs stests) (defBody stests) (defScope stests) (dtests.dvs K) (dtests.kws K) (He.fAd K dtests.at_) fd := T.d 35 (d := dtests)
theorem f_deeds : ∃ fd, FunD K "_law_deeds" "_law_deeds" (defArgs sdeeds) (defBody sdeeds) (defScope sdeeds) (ddeeds.dvs K) (ddeeds.kws K) (He.fAd K ddeeds.at_) fd := T.d 36 (d := ddeeds)
theorem f_row : ∃ fd, FunD K "_law_row" "_law_row" (defArgs srow) (defBody srow) (defScope srow) (drow.dvs K) (drow.kws K) (He.fAd K drow.at_) fd := T.d 37 (d := drow)
theorem f_good : ∃ fd, FunD K "_law_good" "_law_good" (defArgs sgood) (defBody sgood) (defScope sgood) (dgood.dvs K) (dgood.kws K) (He.fAd K dgood.at_) fd := T.d 38 (d := dgood)
theorem f_rows : ∃ fd, FunD K "_law_rows" "_law_rows" (defArgs srows) (defBody srows) (defScope srows) (drows.dvs K) (drows.kws K) (He.fAd K drows.at_) fd := T.d 39 (d := drows)
theorem f_row_for : ∃ fd, FunD K "_law_row_for" "_law_row_for" (defArgs srow_for) (defBody srow_for) (defScope srow_for) (drow_for.dvs K) (drow_for.kws K) (He.fAd K drow_for.at_) fd := T.d 40 (d := drow_for)
theorem f_so : ∃ fd, FunD K "_law_so" "_law_so" (defArgs sso) (defBody sso) (defScope sso) (dso.dvs K) (dso.kws K) (He.fAd K dso.at_) fd := T.d 41 (d := dso)
theorem f_next_sort : ∃ fd, FunD K "_law_next_sort" "_law_next_sort" (defArgs snext_sort) (defBody snext_sort) (defScope snext_sort) (dnext_sort.dvs K) (dnext_sort.kws K) (He.fAd K dnext_sort.at_) fd := T.d 42 (d := dnext_sort)
theorem f_L_sorts : ∃ fd, FunD K "_law_sorts" "_law_sorts" (defArgs sL_sorts) (defBody sL_sorts) (defScope sL_sorts) (dL_sorts.dvs K) (dL_sorts.kws K) (He.fAd K dL_sorts.at_) fd := T.d 43 (d := dL_sorts)
theorem f_law : ∃ fd, FunD K "law" "law" (defArgs slaw) (defBody slaw) (defScope slaw) (dlaw.dvs K) (dlaw.kws K) (He.fAd K dlaw.at_) fd := T.d 44 (d := dlaw)
theorem f_Row_read : ∃ fd, FunD K "read" "Row.read" (defArgs sRow_read) (defBody sRow_read) (defScope sRow_read) [] [] (He5.wf K (He.ga K "Row") "classmethod" "read") fd := T.dx 0 dxRow_read rfl
theorem f_Store_read : ∃ fd, FunD K "read" "Store.read" (defArgs sStore_read) (defBody sStore_read) (defScope sStore_read) [] [] (He5.wf K (He.ga K "Store") "classmethod" "read") fd := T.dx 1 dxStore_read rfl
end
abbrev N_InvalidRow_init : List Str := ["self", "word"]
theorem sc_InvalidRow_init : FnScope N_InvalidRow_init ["self", "word"] (defScope sInvalidRow_init) := ⟨rfl, rfl, rfl, by decide +kernel, rfl, by decide +kernel, by decide +kernel⟩
theorem v_InvalidRow_init_0 : Nm N_InvalidRow_init (defScope sInvalidRow_init) 0 "self" := ⟨rfl, by decide +kernel, by decide +kernel, by decide +kernel⟩
theorem v_InvalidRow_init_1 : Nm N_InvalidRow_init (defScope sInvalidRow_init) 1 "word" := ⟨rfl, by decide +kernel, by decide +kernel, by decide +kernel⟩
theorem x_InvalidRow {P : Program} {w : World} {K : PySem.W.Frag} {mg : Str → Option Value} {base : Heap} (T : T0 w K mg) : ExcMk P w K mg base (He.ga K "InvalidRow") "word" := by
  obtain ⟨fd, F⟩ := f_InvalidRow_init T
  exact ⟨xn_InvalidRow T, _, _, _, _, _, fd, _, basVE, xg_InvalidRow T, xi_InvalidRow T, xt_InvalidRow T, FunD.bindsN (ps := ["self", "word"]) F (fun _ _ _ _ _ _ us hl => match us, hl with | [_, _], _ => rfl), fn_oexG basVE F sc_InvalidRow_init v_InvalidRow_init_0 v_InvalidRow_init_1⟩
abbrev N_InvalidStore_init : List Str := ["self", "word"]
theorem sc_InvalidStore_init : FnScope N_InvalidStore_init ["self", "word"] (defScope sInvalidStore_init) := ⟨rfl, rfl, rfl, by decide +kernel, rfl, by decide +kernel, by decide +kernel⟩
theorem v_InvalidStore_init_0 : Nm N_InvalidStore_init (defScope sInvalidStore_init) 0 "self" := ⟨rfl, by decide +kernel, by decide +kernel, by decide +kernel⟩
theorem v_InvalidStore_init_1 : Nm N_InvalidStore_init (defScope sInvalidStore_init) 1 "word" := ⟨rfl, by decide +kernel, by decide +kernel, by decide +kernel⟩
theorem x_InvalidStore {P : Program} {w : World} {K : PySem.W.Frag} {mg : Str → Option Value} {base : Heap} (T : T0 w K mg) : ExcMk P w K mg base (He.ga K "InvalidStore") "word" := by
  obtain ⟨fd, F⟩ := f_InvalidStore_init T
  exact ⟨xn_InvalidStore T, _, _, _, _, _, fd, _, basVE, xg_InvalidStore T, xi_InvalidStore T, xt_InvalidStore T, FunD.bindsN (ps := ["self", "word"]) F (fun _ _ _ _ _ _ us hl => match us, hl with | [_, _], _ => rfl), fn_oexG basVE F sc_InvalidStore_init v_InvalidStore_init_0 v_InvalidStore_init_1⟩
abbrev N_InvalidText_init : List Str := ["self", "at"]
theorem sc_InvalidText_init : FnScope N_InvalidText_init ["self", "at"] (defScope sInvalidText_init) := ⟨rfl, rfl, rfl, by decide +kernel, rfl, by decide +kernel, by decide +kernel⟩
theorem v_InvalidText_init_0 : Nm N_InvalidText_init (defScope sInvalidText_init) 0 "self" := ⟨rfl, by decide +kernel, by decide +kernel, by decide +kernel⟩
theorem v_InvalidText_init_1 : Nm N_InvalidText_init (defScope sInvalidText_init) 1 "at" := ⟨rfl, by decide +kernel, by decide +kernel, by decide +kernel⟩
theorem x_InvalidText {P : Program} {w : World} {K : PySem.W.Frag} {mg : Str → Option Value} {base : Heap} (T : T0 w K mg) : ExcMk P w K mg base (He.ga K "InvalidText") "at" := by
  obtain ⟨fd, F⟩ := f_InvalidText_init T
  exact ⟨xn_InvalidText T, _, _, _, _, _, fd, _, basVE, xg_InvalidText T, xi_InvalidText T, xt_InvalidText T, FunD.bindsN (ps := ["self", "at"]) F (fun _ _ _ _ _ _ us hl => match us, hl with | [_, _], _ => rfl), fn_oexG basVE F sc_InvalidText_init v_InvalidText_init_0 v_InvalidText_init_1⟩
abbrev N_NoRow_init : List Str := ["self", "at"]
theorem sc_NoRow_init : FnScope N_NoRow_init ["self", "at"] (defScope sNoRow_init) := ⟨rfl, rfl, rfl, by decide +kernel, rfl, by decide +kernel, by decide +kernel⟩
theorem v_NoRow_init_0 : Nm N_NoRow_init (defScope sNoRow_init) 0 "self" := ⟨rfl, by decide +kernel, by decide +kernel, by decide +kernel⟩
theorem v_NoRow_init_1 : Nm N_NoRow_init (defScope sNoRow_init) 1 "at" := ⟨rfl, by decide +kernel, by decide +kernel, by decide +kernel⟩
theorem x_NoRow {P : Program} {w : World} {K : PySem.W.Frag} {mg : Str → Option Value} {base : Heap} (T : T0 w K mg) : ExcMk P w K mg base (He.ga K "NoRow") "at" := by
  obtain ⟨fd, F⟩ := f_NoRow_init T
  exact ⟨xn_NoRow T, _, _, _, _, _, fd, _, basIE, xg_NoRow T, xi_NoRow T, xt_NoRow T, FunD.bindsN (ps := ["self", "at"]) F (fun _ _ _ _ _ _ us hl => match us, hl with | [_, _], _ => rfl), fn_oexG basIE F sc_NoRow_init v_NoRow_init_0 v_NoRow_init_1⟩
def loose0 : List Str := ["_wall", "__name__", "FRESH", "mark_holds", "test_holds", "row_done", "says_yes", "deeds_of", "is_careless", "marked", "sort_behind", "KINDS", "is_sequence", "kinds_left", "goes_on"]
def loose1 : List Str := ["closed_sorts", "all_sorts", "events_of", "EndError", "InvalidRow", "InvalidStore", "InvalidText", "NoRow", "sorts", "Course", "Meaning", "course_of", "OF_NAMED", "OF_JOINS", "DEEDS"]
def loose2 : List Str := ["is_test", "is_deed", "told_between", "Row", "Store", "row_at", "_law_deal", "_law_draw", "_law_pick", "_law_text", "_law_tests", "_law_deeds", "_law_row", "_law_good", "_law_rows"]
def loose3 : List Str := ["_law_row_for", "_law_so", "_law_next_sort", "_law_sorts"]
abbrev loose : List Str := loose0 ++ (loose1 ++ (loose2 ++ (loose3)))
def as0 : List Addr := [3, 6, 4, 21, 22, 29, 36, 41, 48, 55, 62, 69, 76, 77, 84, 89, 96, 101, 106, 111, 121, 141, 160, 179, 198, 210, 285, 342, 353, 354, 355, 356, 367, 374, 379, 421, 518, 529, 534, 541]
def as1 : List Addr := [548, 555, 562, 567, 574, 581, 586, 591, 598, 605, 612, 617, 0, 20, 28, 35, 40, 47, 54, 61, 68, 75, 83, 88, 95, 100, 105, 110, 120, 140, 159, 178, 197, 209, 203, 284, 341, 352, 357, 358]
def as2 : List Addr := [359, 360, 366, 373, 378, 420, 517, 528, 533, 540, 547, 554, 561, 566, 573, 580, 585, 590, 597, 604, 611, 616, 15, 16, 17, 18, 19, 23, 24, 25, 26, 27, 30, 31, 32, 33, 34, 37, 38, 39]
def as3 : List Addr := [42, 43, 44, 45, 46, 49, 50, 51, 52, 53, 56, 57, 58, 59, 60, 63, 64, 65, 66, 67, 70, 71, 72, 73, 74, 78, 79, 80, 81, 82, 85, 86, 87, 90, 91, 92, 93, 94, 97, 98]
def as4 : List Addr := [99, 102, 103, 104, 107, 108, 109, 119, 122, 138, 139, 157, 158, 176, 177, 195, 196, 199, 204, 205, 206, 207, 208, 202, 224, 231, 236, 243, 250, 255, 260, 267, 272, 277, 282, 283, 286, 287, 303, 310]
def as5 : List Addr := [315, 322, 329, 334, 339, 340, 343, 344, 347, 348, 349, 350, 351, 361, 362, 363, 364, 365, 368, 369, 370, 371, 372, 375, 376, 377, 394, 403, 411, 418, 419, 422, 423, 439, 446, 454, 461, 468, 475, 482]
def as6 : List Addr := [489, 496, 503, 510, 515, 516, 519, 520, 523, 524, 525, 526, 527, 530, 531, 532, 535, 536, 537, 538, 539, 542, 543, 544, 545, 546, 549, 550, 551, 552, 553, 556, 557, 558, 559, 560, 563, 564, 565, 568]
def as7 : List Addr := [569, 570, 571, 572, 575, 576, 577, 578, 579, 582, 583, 584, 587, 588, 589, 592, 593, 594, 595, 596, 599, 600, 601, 602, 603, 606, 607, 608, 609, 610, 613, 614, 615, 137, 156, 175, 194, 223, 230, 235]
def as8 : List Addr := [242, 249, 254, 259, 266, 271, 276, 281, 302, 309, 314, 321, 328, 333, 338, 393, 389, 401, 402, 410, 417, 438, 434, 444, 445, 453, 460, 467, 474, 481, 488, 495, 502, 509, 514, 132, 133, 134, 135, 136]
def as9 : List Addr := [151, 152, 153, 154, 155, 170, 171, 172, 173, 174, 189, 190, 191, 192, 193, 218, 219, 220, 221, 222, 225, 226, 227, 228, 229, 232, 233, 234, 237, 238, 239, 240, 241, 244, 245, 246, 247, 248, 251, 252]
def as10 : List Addr := [253, 256, 257, 258, 261, 262, 263, 264, 265, 268, 269, 270, 273, 274, 275, 278, 279, 280, 297, 298, 299, 300, 301, 304, 305, 306, 307, 308, 311, 312, 313, 316, 317, 318, 319, 320, 323, 324, 325, 326]
def as11 : List Addr := [327, 330, 331, 332, 335, 336, 337, 390, 391, 392, 387, 388, 400, 404, 405, 406, 407, 408, 409, 412, 413, 414, 415, 416, 435, 436, 437, 433, 443, 447, 448, 449, 450, 451, 452, 455, 456, 457, 458, 459]
def as12 : List Addr := [462, 463, 464, 465, 466, 469, 470, 471, 472, 473, 476, 477, 478, 479, 480, 483, 484, 485, 486, 487, 490, 491, 492, 493, 494, 497, 498, 499, 500, 501, 504, 505, 506, 507, 508, 511, 512, 513, 2]
def as : List Addr := as0 ++ (as1 ++ (as2 ++ (as3 ++ (as4 ++ (as5 ++ (as6 ++ (as7 ++ (as8 ++ (as9 ++ (as10 ++ (as11 ++ (as12))))))))))))
abbrev R : PySem.W.OpenRow := PySem.W.OpenLaw.row PySem.Challenge.rw_joinsback_k25_sorts_of_records
abbrev hk : PySem.W.Hook := hookL as fa fn fx ts ex
def ob (s : PySem.W.SharedT) : AlP := obsL as fa fn fx ts ex (HandSHeadRun.getT s)
theorem ob_eq (s : PySem.W.SharedT) : ob s = hk.obs s.abs := obsL_eq (HandSHeadRun.getT_eq s)
set_option maxHeartbeats 0 in
theorem runF (w : World) : HandSHeadRun.RunEq R (PySem.W.view R.prog [57]) hk ob 100000 loose (w.withFollow "special-get-raises" false) := by
  intro os; kernel_rfl
set_option maxHeartbeats 0 in
theorem runT (w : World) : HandSHeadRun.RunEq R (PySem.W.view R.prog [57]) hk ob 100000 loose (w.withFollow "special-get-raises" true) := by
  intro os; kernel_rfl
theorem run (w : World) : HandSHeadRun.RunEq R (PySem.W.view R.prog [57]) hk ob 100000 loose w :=
  PySem.W.byRow2 "special-get-raises" (P := fun w => HandSHeadRun.RunEq R (PySem.W.view R.prog [57]) hk ob 100000 loose w) runF runT w
def FactsC : Prop := ∀ (P : Program) (w : World) (K : PySem.W.Frag) (h : Heap) (mg : Str → Option Value) (f : Addr) (X : K.In h) (G : h.Ns mainGlobals mg) (hfa : mg ("law" : Str) = some (.ref f)) (c : sayP fa fn fx ts ex K = valP fn fx ts w),
    ∃ fd : FuncData, (∀ (s : Shared) (v : Value), BindsTo s fd ⟨[v], []⟩ [("_law_script", v)]) ∧ ∀ base : Heap, K.In base → base.Ns mainGlobals mg → FnD false P w K mg base 10 f fd ["_law_script"] spLaw
end LW
section
open PySem PySem.W PySem.Calls PyProof.Rows
set_option maxHeartbeats 0 in
theorem LW.fin (FC : LW.FactsC) : PySem.Challenge.rw_joinsback_k25_sorts_of_records.Holds := by
  w_on; o_law
  refine HandSHeadRun.head_any (r := OpenLaw.row PySem.Challenge.rw_joinsback_k25_sorts_of_records) (q := view (OpenLaw.row PySem.Challenge.rw_joinsback_k25_sorts_of_records).prog [57]) (H := LW.hk) (ob := LW.ob) (M := 100000) (loose := LW.loose) (d := HandSHeadRun.topDef (OpenLaw.row PySem.Challenge.rw_joinsback_k25_sorts_of_records).prog 57) (kwd := []) LW.ob_eq
    (by kernel_rfl) (fun s => by kernel_rfl) LW.run (by kernel_rfl) (by kernel_rfl) (by kernel_rfl) (by rfl) (by first | assumption | decide +kernel) (by decide +kernel) ⟨rfl, rfl, rfl, rfl, rfl, by decide +kernel⟩ ?hw ?hc
  case hw => w_witness2
  case hc =>
    refine PD.walk_pd (l := PySem.Challenge.rw_joinsback_k25_sorts_of_records) (n := 63) (k := 10) (x := "_law_script") rfl (by kernel_rfl) ⟨rfl, by decide, by decide⟩ ?F
    intro w mg fa h Y G hmg0
    obtain ⟨K, KX, c⟩ := Y
    have hmg : mg ("law" : PySem.Str) = some (.ref fa) := by
      have e : (HandSHeadRun.topDef (OpenLaw.row PySem.Challenge.rw_joinsback_k25_sorts_of_records).prog 57).name = ("law" : PySem.Str) := by kernel_rfl
      rw [← e]
      exact hmg0
    obtain ⟨fd, hb, hF⟩ := FC (PySem.Challenge.rw_joinsback_k25_sorts_of_records).prog w K h mg fa KX G hmg c
    exact ⟨K, fd, KX, hb, hF⟩
end
namespace LW
open PySem PySem.Spec PyProof.Rows L2 PD
local macro_rules | `(tactic| walk_at "pd.listL") => `(tactic| refine cld_list_lst ?_)
local macro_rules | `(tactic| walk_at "pd.listT") => `(tactic| refine cld_list_tup ?_)
local macro_rules | `(tactic| walk_at "pd.lst") => `(tactic| refine ed_lst ?_)
/-! the stepping tactic: by the head of the syntax -/
local macro_rules | `(tactic| walk_at "pd.side") => `(tactic| first | assumption | rfl | decide | omega)
local macro_rules | `(tactic| walk_at "pd.mem") => `(tactic| first | exact List.mem_cons_self | (refine List.mem_cons_of_mem _ ?_; walk_at "pd.mem") | assumption)
local macro_rules | `(tactic| walk_at "pd.ed") => `(tactic| first
  | ((with_reducible show ed _ (Expr.Name _ _) _ _ _); walk_at "pd.nm")
  | ((with_reducible show ed _ (Expr.Constant (Const.int _) _ _) _ _ _); refine ed_int ?_)
  | ((with_reducible show ed _ (Expr.Call _ _ _ _) _ _ _); walk_at "pd.call")
  | ((with_reducible show ed _ (Expr.Constant (Const.str _) _ _) _ _ _); refine ed_str ?_)
  | ((with_reducible show ed _ (Expr.Attribute _ _ _) _ _ _); walk_at "pd.fld")
  | ((with_reducible show ed _ (Expr.Subscript _ (Expr.Slice _ _ none _) _) _ _ _); refine ed_slc ?_)
  | ((with_reducible show ed _ (Expr.Subscript _ (Expr.Slice none none (some _) _) _) _ _ _); refine ed_rev ?_)
  | ((with_reducible show ed _ (Expr.Subscript _ _ _) _ _ _); refine ed_ix ?_)
  | ((with_reducible show ed _ (Expr.BinOp _ _ _ _) _ _ _); refine ed_bin ?_)
  | ((with_reducible show ed _ (Expr.Compare _ [_] _ _) _ _ _); refine ed_cmp (by with_unfolding_all rfl) ?_)
  | ((with_reducible show ed _ (Expr.List _ _) _ _ _); walk_at "pd.lst")
  | ((with_reducible show ed _ (Expr.Tuple _ _ _) _ _ _); refine ed_tup ?_)
  | ((with_reducible show ed _ (Expr.ListComp _ _ _ _) _ _ _); walk_at "pd.lc")
  | ((with_reducible show ed _ (Expr.DictComp _ _ _ _ _) _ _ _); walk_at "pd.dc")
  | ((with_reducible show ed _ (Expr.BoolOp _ [_] _) _ _ _); refine ed_one ?_)
  | ((with_reducible show ed _ (Expr.BoolOp BoolOp.And _ _) _ _ _); refine ed_and ?_)
  | ((with_reducible show ed _ (Expr.BoolOp BoolOp.Or _ _) _ _ _); refine ed_or ?_)
  | ((with_reducible show ed _ (Expr.IfExp _ _ _ _) _ _ _); refine ed_if ?_)
  | ((with_reducible show ed _ (Expr.UnaryOp UnaryOp.Not _ _) _ _ _); refine ed_not ?_)
  | ((with_reducible show ed _ (Expr.UnaryOp _ _ _) _ _ _); refine ed_un ?_)
  | ((with_reducible show ed _ (Expr.Constant (Const.bool _) _ _) _ _ _); refine ed_bl ?_)
  | ((with_reducible show ed _ (Expr.Constant Const.none _ _) _ _ _); refine ed_non ?_)
  | ((with_reducible show ed _ (Expr.Compare _ [_, _] _ _) _ _ _); refine ed_chain ?_)
  | fail)
local macro_rules | `(tactic| walk_at "pd.et") => `(tactic| first
  | ((with_reducible show et _ (Expr.Compare _ [_] _ _) _ _ _); refine et_cmp (by with_unfolding_all rfl) ?_)
  | ((with_reducible show et _ (Expr.Compare _ [_, _] _ _) _ _ _); refine et_chain ?_)
  | ((with_reducible show et _ (Expr.BoolOp _ _ _) _ _ _); refine et_ew ?_)
  | ((with_reducible show et _ (Expr.UnaryOp UnaryOp.Not _ _) _ _ _); refine et_not ?_)
  | refine et_val ?_
  | fail)
local macro_rules | `(tactic| walk_at "pd.ew") => `(tactic| first
  | ((with_reducible show ew _ (Expr.BoolOp BoolOp.And [_] _) _ _ _); refine ew_and1 ?_)
  | ((with_reducible show ew _ (Expr.BoolOp BoolOp.And _ _) _ _ _); refine ew_and ?_)
  | ((with_reducible show ew _ (Expr.BoolOp BoolOp.Or [_] _) _ _ _); refine ew_or1 ?_)
  | ((with_reducible show ew _ (Expr.BoolOp BoolOp.Or _ _) _ _ _); refine ew_or ?_)
  | fail)
local macro_rules | `(tactic| walk_at "pd.opd") => `(tactic| first
  | ((with_reducible show opd _ (compareOp CmpOp.Eq) (D.str _) (D.str _) _ _ _); refine opd_eqS ?_)
  | ((with_reducible show opd _ (compareOp CmpOp.Eq) (D.int _) (D.int _) _ _ _); refine opd_eqI ?_)
  | ((with_reducible show opd _ (binaryOp Operator.Add) (D.int _) (D.int _) _ _ _); refine opd_add ?_)
  | ((with_reducible show opd _ (compareOp CmpOp.Lt) (D.int _) (D.int _) _ _ _); refine opd_lt ?_)
  | ((with_reducible show opd _ (compareOp CmpOp.Is) (D.bl _) (D.bl _) _ _ _); refine opd_isB ?_)
  | ((with_reducible show opd _ (compareOp CmpOp.In) (D.str _) (D.str _) _ _ _); refine opd_inSign ?_)
  | ((with_reducible show opd _ (compareOp CmpOp.In) (D.str _) (D.tup (List.map D.str _)) _ _ _); refine opd_inS _ (.tup _) rfl ?_)
  | ((with_reducible show opd _ (compareOp CmpOp.In) (D.str _) (D.lst (List.map D.str _)) _ _ _); refine opd_inS _ (.lst _) rfl ?_)
  | ((with_reducible show opd _ (compareOp CmpOp.NotIn) (D.str _) (D.tup (List.map D.str _)) _ _ _); refine opd_notInS _ (.tup _) rfl ?_)
  | ((with_reducible show opd _ (compareOp CmpOp.NotIn) (D.str _) (D.lst (List.map D.str _)) _ _ _); refine opd_notInS _ (.lst _) rfl ?_)
  | ((with_reducible show opd _ (compareOp CmpOp.In) (D.int _) (D.lst (List.map D.int _)) _ _ _); refine opd_inI _ (.lst _) rfl ?_)
  | ((with_reducible show opd _ (compareOp CmpOp.NotIn) (D.int _) (D.lst (List.map D.int _)) _ _ _); refine opd_notInI _ (.lst _) rfl ?_)
  | ((with_reducible show opd _ (compareOp CmpOp.In) (D.int _) (D.tup (List.map D.int _)) _ _ _); refine opd_inI _ (.tup _) rfl ?_)
  | ((with_reducible show opd _ (compareOp CmpOp.NotIn) (D.int _) (D.tup (List.map D.int _)) _ _ _); refine opd_notInI _ (.tup _) rfl ?_)
  | ((with_reducible show opd _ (binaryOp Operator.Add) (D.lst _) (D.lst _) _ _ _); refine opd_cat ?_ ?_; focus (first | decide | (simp [small_le]; done) | (refine small_le ?_; simp only [List.length_append, List.length_cons, List.length_nil, List.length_map, List.length_take, List.length_drop]; omega) | fail))
  | ((with_reducible show opd _ (binaryOp Operator.Add) (D.tup _) (D.tup _) _ _ _); refine opd_catT ?_ ?_; focus (first | decide | (simp [small_le]; done) | (refine small_le ?_; simp only [List.length_append, List.length_cons, List.length_nil, List.length_map, List.length_take, List.length_drop]; omega) | fail))
  | ((with_reducible show opd _ (binaryOp Operator.Add) (D.str _) (D.str _) _ _ _); refine opd_addS (by first | assumption | decide) ?_)
  | ((with_reducible show opd _ (compareOp CmpOp.Gt) (D.int _) (D.int _) _ _ _); refine opd_gt ?_)
  | ((with_reducible show opd _ (compareOp CmpOp.LtE) (D.int _) (D.int _) _ _ _); refine opd_le ?_)
  | ((with_reducible show opd _ (compareOp CmpOp.GtE) (D.int _) (D.int _) _ _ _); refine opd_ge ?_)
  | ((with_reducible show opd _ (compareOp CmpOp.NotEq) (D.int _) (D.int _) _ _ _); refine opd_neI ?_)
  | ((with_reducible show opd _ (compareOp CmpOp.NotEq) (D.str _) (D.str _) _ _ _); refine opd_neS ?_)
  | ((with_reducible show opd _ (compareOp CmpOp.Is) _ D.non _ _ _); refine opd_isN ?_)
  | ((with_reducible show opd _ (compareOp CmpOp.IsNot) _ D.non _ _ _); refine opd_notN ?_)
  | ((with_reducible show opd _ (binaryOp Operator.Sub) (D.int _) (D.int _) _ _ _); refine opd_sub ?_)
  | ((with_reducible show opd _ (binaryOp Operator.Mult) (D.int _) (D.int _) _ _ _); refine opd_mul (by first | (refine Or.inr ⟨?_, ?_⟩ <;> decide) | (refine Or.inl ⟨?_, ?_⟩ <;> decide) | (refine Or.inl ⟨?_, ?_⟩ <;> omega) | (refine Or.inr ⟨?_, ?_⟩ <;> omega)) ?_)
  | ((with_reducible show opd _ (binaryOp Operator.Mod) (D.int _) (D.int _) _ _ _); refine opd_mod (by walk_at "pd.side") ?_)
  | ((with_reducible show opd _ (binaryOp Operator.FloorDiv) (D.int _) (D.int _) _ _ _); refine opd_fdiv (by constructor <;> walk_at "pd.side") ?_)
  | ((with_reducible show opd _ (binaryOp Operator.Pow) (D.int _) (D.int _) _ _ _); refine opd_pow (by refine ⟨?_, ?_, ?_⟩ <;> decide) ?_)
  | fail)
local macro_rules | `(tactic| walk_at "pd.ty") => `(tactic| first | exact .str _ | exact .bl _ | exact .int _ | exact .non | exact .lst _ | exact .tup _ | exact .rl _ | exact .own (by walk_at "pd.mem") | assumption)
local macro_rules | `(tactic| walk_at "pd.isi") => `(tactic| first
  | ((with_reducible show cld _ _ [D.str _, D.ty "str"] _ _ _); refine cld_isi (.str _) rfl (kit_ty kb_str_str) ?_)
  | ((with_reducible show cld _ _ [D.str _, D.ty "int"] _ _ _); refine cld_isi (.str _) rfl (kit_ty kb_str_int) ?_)
  | ((with_reducible show cld _ _ [D.str _, D.ty "bool"] _ _ _); refine cld_isi (.str _) rfl (kit_ty kb_str_bool) ?_)
  | ((with_reducible show cld _ _ [D.str _, D.ty "list"] _ _ _); refine cld_isi (.str _) rfl (kit_ty kb_str_list) ?_)
  | ((with_reducible show cld _ _ [D.str _, D.ty "tuple"] _ _ _); refine cld_isi (.str _) rfl (kit_ty kb_str_tuple) ?_)
  | ((with_reducible show cld _ _ [D.bl _, D.ty "str"] _ _ _); refine cld_isi (.bl _) rfl (kit_ty kb_bool_str) ?_)
  | ((with_reducible show cld _ _ [D.bl _, D.ty "int"] _ _ _); refine cld_isi (.bl _) rfl (kit_ty kb_bool_int) ?_)
  | ((with_reducible show cld _ _ [D.bl _, D.ty "bool"] _ _ _); refine cld_isi (.bl _) rfl (kit_ty kb_bool_bool) ?_)
  | ((with_reducible show cld _ _ [D.bl _, D.ty "list"] _ _ _); refine cld_isi (.bl _) rfl (kit_ty kb_bool_list) ?_)
  | ((with_reducible show cld _ _ [D.bl _, D.ty "tuple"] _ _ _); refine cld_isi (.bl _) rfl (kit_ty kb_bool_tuple) ?_)
  | ((with_reducible show cld _ _ [D.int _, D.ty "str"] _ _ _); refine cld_isi (.int _) rfl (kit_ty kb_int_str) ?_)
  | ((with_reducible show cld _ _ [D.int _, D.ty "int"] _ _ _); refine cld_isi (.int _) rfl (kit_ty kb_int_int) ?_)
  | ((with_reducible show cld _ _ [D.int _, D.ty "bool"] _ _ _); refine cld_isi (.int _) rfl (kit_ty kb_int_bool) ?_)
  | ((with_reducible show cld _ _ [D.int _, D.ty "list"] _ _ _); refine cld_isi (.int _) rfl (kit_ty kb_int_list) ?_)
  | ((with_reducible show cld _ _ [D.int _, D.ty "tuple"] _ _ _); refine cld_isi (.int _) rfl (kit_ty kb_int_tuple) ?_)
  | ((with_reducible show cld _ _ [D.non, D.ty "str"] _ _ _); refine cld_isi (.non) rfl (kit_ty kb_NoneType_str) ?_)
  | ((with_reducible show cld _ _ [D.non, D.ty "int"] _ _ _); refine cld_isi (.non) rfl (kit_ty kb_NoneType_int) ?_)
  | ((with_reducible show cld _ _ [D.non, D.ty "bool"] _ _ _); refine cld_isi (.non) rfl (kit_ty kb_NoneType_bool) ?_)
  | ((with_reducible show cld _ _ [D.non, D.ty "list"] _ _ _); refine cld_isi (.non) rfl (kit_ty kb_NoneType_list) ?_)
  | ((with_reducible show cld _ _ [D.non, D.ty "tuple"] _ _ _); refine cld_isi (.non) rfl (kit_ty kb_NoneType_tuple) ?_)
  | ((with_reducible show cld _ _ [D.lst _, D.ty "str"] _ _ _); refine cld_isi (.lst _) rfl (kit_ty kb_list_str) ?_)
  | ((with_reducible show cld _ _ [D.lst _, D.ty "int"] _ _ _); refine cld_isi (.lst _) rfl (kit_ty kb_list_int) ?_)
  | ((with_reducible show cld _ _ [D.lst _, D.ty "bool"] _ _ _); refine cld_isi (.lst _) rfl (kit_ty kb_list_bool) ?_)
  | ((with_reducible show cld _ _ [D.lst _, D.ty "list"] _ _ _); refine cld_isi (.lst _) rfl (kit_ty kb_list_list) ?_)
  | ((with_reducible show cld _ _ [D.lst _, D.ty "tuple"] _ _ _); refine cld_isi (.lst _) rfl (kit_ty kb_list_tuple) ?_)
  | ((with_reducible show cld _ _ [D.rl _, D.ty "str"] _ _ _); refine cld_isi (.rl _) rfl (kit_ty kb_list_str) ?_)
  | ((with_reducible show cld _ _ [D.rl _, D.ty "int"] _ _ _); refine cld_isi (.rl _) rfl (kit_ty kb_list_int) ?_)
  | ((with_reducible show cld _ _ [D.rl _, D.ty "bool"] _ _ _); refine cld_isi (.rl _) rfl (kit_ty kb_list_bool) ?_)
  | ((with_reducible show cld _ _ [D.rl _, D.ty "list"] _ _ _); refine cld_isi (.rl _) rfl (kit_ty kb_list_list) ?_)
  | ((with_reducible show cld _ _ [D.rl _, D.ty "tuple"] _ _ _); refine cld_isi (.rl _) rfl (kit_ty kb_list_tuple) ?_)
  | ((with_reducible show cld _ _ [D.tup _, D.ty "str"] _ _ _); refine cld_isi (.tup _) rfl (kit_ty kb_tuple_str) ?_)
  | ((with_reducible show cld _ _ [D.tup _, D.ty "int"] _ _ _); refine cld_isi (.tup _) rfl (kit_ty kb_tuple_int) ?_)
  | ((with_reducible show cld _ _ [D.tup _, D.ty "bool"] _ _ _); refine cld_isi (.tup _) rfl (kit_ty kb_tuple_bool) ?_)
  | ((with_reducible show cld _ _ [D.tup _, D.ty "list"] _ _ _); refine cld_isi (.tup _) rfl (kit_ty kb_tuple_list) ?_)
  | ((with_reducible show cld _ _ [D.tup _, D.ty "tuple"] _ _ _); refine cld_isi (.tup _) rfl (kit_ty kb_tuple_tuple) ?_)
  | fail)
local macro_rules | `(tactic| walk_at "pd.isiT") => `(tactic| first
  | ((with_reducible show cld _ _ [D.lst _, _] _ _ _); refine cld_isiSeq (.lst _) ?_)
  | ((with_reducible show cld _ _ [D.rl _, _] _ _ _); refine cld_isiSeq (.rl _) ?_)
  | ((with_reducible show cld _ _ [D.tup _, _] _ _ _); refine cld_isiSeq (.tup _) ?_)
  | ((with_reducible show cld _ _ [D.ref _, _] _ _ _); refine cld_isiSeq (.own (by walk_at "pd.mem")) ?_)
  | ((with_reducible show cld _ _ [D.str _, _] _ _ _); refine cld_isiNoSeq (.str _) ka_str ?_)
  | ((with_reducible show cld _ _ [D.int _, _] _ _ _); refine cld_isiNoSeq (.int _) ka_int ?_)
  | ((with_reducible show cld _ _ [D.bl _, _] _ _ _); refine cld_isiNoSeq (.bl _) ka_bool ?_)
  | ((with_reducible show cld _ _ [D.non, _] _ _ _); refine cld_isiNoSeq .non ka_NoneType ?_)
  | fail)
local macro_rules | `(tactic| walk_at "pd.cld") => `(tactic| first
  | ((with_reducible show cld _ (Value.builtin "len") [D.lst _] _ _ _); refine cld_len_lst ?_)
  | ((with_reducible show cld _ (Value.type "int") [D.int _] _ _ _); refine cld_int ?_)
  | ((with_reducible show cld _ (Value.type "str") [D.str _] _ _ _); refine cld_strS ?_)
  | ((with_reducible show cld _ (Value.type "tuple") [D.ref _] _ _ _); refine cld_tuple_own (by walk_at "pd.mem") ?_)
  | ((with_reducible show cld _ (Value.builtin "repr") [D.bl _] _ _ _); refine cld_repr_bl ?_)
  | ((with_reducible show cld _ (Value.builtin "all") [D.lst (List.map D.bl _)] _ _ _); refine cld_all rfl ?_)
  | ((with_reducible show cld _ (Value.builtin "any") [D.lst (List.map D.bl _)] _ _ _); refine cld_any rfl ?_)
  | ((with_reducible show cld _ (Value.builtin "len") [D.str _] _ _ _); refine cld_len_str (by walk_at "pd.side") ?_)
  | ((with_reducible show cld _ (Value.builtin "isinstance") [_, D.tup _] _ _ _); walk_at "pd.isiT")
  | ((with_reducible show cld _ (Value.builtin "isinstance") [_, _] _ _ _); walk_at "pd.isi")
  | ((with_reducible show cld _ (Value.builtin "len") [D.tup _] _ _ _); refine cld_len_tup ?_)
  | ((with_reducible show cld _ (Value.builtin "len") [D.ref _] _ _ _); first | refine cld_len_own (by walk_at "pd.mem") ?_ | refine cld_len_Y (Or.inl (by walk_at "pd.mem")) ?_)
  | ((with_reducible show cld _ (Value.builtin "len") [D.rl _] _ _ _); refine cld_len_rl ?_)
  | ((with_reducible show cld _ (Value.builtin "abs") [D.int _] _ _ _); refine cld_abs ?_)
  | ((with_reducible show cld _ (Value.type "tuple") [D.lst _] _ _ _); refine cld_tuple_lst ?_)
  | ((with_reducible show cld _ (Value.type "tuple") [D.tup _] _ _ _); refine cld_tuple_tup ?_)
  | ((with_reducible show cld _ (Value.type "list") [D.tup _] _ _ _); walk_at "pd.listT")
  | ((with_reducible show cld _ (Value.type "list") [D.lst _] _ _ _); walk_at "pd.listL")
  | fail)
local macro_rules | `(tactic| walk_at "pd.ixd") => `(tactic| first
  | ((with_reducible show ixd _ (D.ref _) (D.int _) _ _ _); refine ixd_own (by walk_at "pd.mem") (by rfl) ?_)
  | ((with_reducible show ixd _ (D.lst (_ :: _)) (D.int 0) _ _ _); refine ixd_lst atI_zero ?_)
  | ((with_reducible show ixd _ (D.tup (_ :: _)) (D.int 0) _ _ _); refine ixd_tup atI_zero ?_)
  | ((with_reducible show ixd _ (D.lst _) (D.int _) _ _ _); refine ixd_lst (by rfl) ?_)
  | ((with_reducible show ixd _ (D.tup _) (D.int _) _ _ _); refine ixd_tup (by rfl) ?_)
  | fail)
local macro_rules | `(tactic| walk_at "pd.sd") => `(tactic| first
  | ((with_reducible show sd _ (Stmt.Assign [Expr.Name _ _] _ _) _ _ _); walk_at "pd.set")
  | ((with_reducible show sd _ (Stmt.If _ _ _ _) _ _ _); refine sd_if ?_)
  | ((with_reducible show sd _ (Stmt.Return (some _) _) _ _ _); refine sd_ret ?_)
  | ((with_reducible show sd _ (Stmt.Expr (Expr.Constant _ _ _) _) _ _ _); refine sd_doc ?_)
  | ((with_reducible show sd _ (Stmt.Expr _ _) _ _ _); refine sd_expr ?_)
  | ((with_reducible show sd _ (Stmt.Assign [Expr.Attribute _ _ _] _ _) _ _ _); walk_at "pd.sfld")
  | ((with_reducible show sd _ (Stmt.Assign [Expr.Tuple [_, _] _ _] (Expr.Tuple [_, _] _ _) _) _ _ _); walk_at "pd.par")
  | ((with_reducible show sd _ (Stmt.Assign [Expr.Tuple [_, _, _] _ _] (Expr.Tuple [_, _, _] _ _) _) _ _ _); walk_at "pd.par")
  | ((with_reducible show sd _ (Stmt.Assign _ _ _) _ _ _); refine sd_asg ?_)
  | ((with_reducible show sd _ (Stmt.Return none _) _ _ _); refine sd_retN ?_)
  | ((with_reducible show sd _ (Stmt.Pass _) _ _ _); refine sd_pass ?_)
  | ((with_reducible show sd _ (Stmt.AugAssign (Expr.Name _ _) _ _ _) _ _ _); walk_at "pd.aug")
  | ((with_reducible show sd _ (Stmt.Raise _ _ _) _ _ _); walk_at "pd.raise")
  | ((with_reducible show sd _ (Stmt.Try _ _ _ _ _) _ _ _); walk_at "pd.try")
  | fail)
local macro_rules | `(tactic| walk_at "pd.gd") => `(tactic| first
  | walk_at "pd.g"
  | ((with_reducible show gd _ (Expr.Subscript _ _ _) _ _ _ _); refine gd_setL ?_)
  | ((with_reducible show gd _ (Expr.Tuple _ _ _) (D.tup _) _ _ _); refine gd_tup rfl ⟨rfl, ?_⟩)
  | ((with_reducible show gv _ (Expr.Tuple _ _ _) (D.tup _) _ _ _ _); refine gv_tup rfl ⟨rfl, ?_⟩)
  | fail)
local macro_rules | `(tactic| walk_at "pd.l") => `(tactic| first
  | (with_reducible refine exB ?_)
  | (with_reducible refine iteT ?_) | (with_reducible refine iteF ?_)
  | ((with_reducible show if List.isEmpty (_ :: _) = true then _ else _); refine iteFr rfl ?_)
  | ((with_reducible show if List.isEmpty [] = true then _ else _); refine iteTr rfl ?_)
  | ((with_reducible show if isBlD _ = true then _ else _); first | (refine iteTr (by rfl) ?_) | (refine iteFr (by rfl) ?_))
  | ((with_reducible show if (!isBlD _) = true then _ else _); first | (refine iteTr (by rfl) ?_) | (refine iteFr (by rfl) ?_))
  | ((with_reducible show if isStrD _ = true then _ else _); first | (refine iteTr (by rfl) ?_) | (refine iteFr (by rfl) ?_))
  | ((with_reducible show if (!isStrD _) = true then _ else _); first | (refine iteTr (by rfl) ?_) | (refine iteFr (by rfl) ?_))
  | ((with_reducible show List.length _ ≤ 1000 ∧ _); refine ⟨by first | decide | (simp; done), ?_⟩)
  | ((with_reducible show List.length _ = _ ∧ _); refine ⟨rfl, ?_⟩)
  | ((with_reducible show ∃ (x : D) (xs : List D), [_] = [x] ∧ SeqD _ x xs ∧ _); refine ⟨_, _, rfl, by first | exact .lst _ | exact .tup _ | exact .own (by walk_at "pd.mem") | assumption, ?_⟩)
  | ((with_reducible show ∃ (d d' : D), [_, _] = [d, d'] ∧ _); refine ⟨_, _, rfl, ?_⟩)
  | ((with_reducible show ∃ (d d' d'' : D), [_, _, _] = [d, d', d''] ∧ _); refine ⟨_, _, _, rfl, ?_⟩)
  | ((with_reducible show tyD "list" (D.ref _) _ ∧ _); refine ⟨Or.inl ⟨_, by walk_at "pd.mem", rfl⟩, ?_⟩)
  | ((with_reducible show tyD _ (D.str _) _ ∧ _); refine ⟨rfl, ?_⟩)
  | ((with_reducible show tyD _ (D.lst _) _ ∧ _); refine ⟨rfl, ?_⟩)
  | ((with_reducible show tyD "dict" (D.ref _) _ ∧ _); refine ⟨Or.inr (Or.inl ⟨_, _, by walk_at "pd.mem", rfl⟩), ?_⟩)
  | (with_reducible refine exI ?_)
  | ((with_reducible show ∃ (p : Addr) (dx : Addr) (ns : List Str) (ds : List D) (μa μb : Mu), _); refine ⟨_, _, _, _, [], _, rfl, rfl, of_decide_eq_true rfl, ?_⟩)
  | ((with_reducible show ∃ (d : D), FldD _ _ _ _ d ∧ _); first | refine ⟨_, ⟨rfl, rfl⟩, ?_⟩ | refine ⟨_, ⟨_, _, _, by walk_at "pd.mem", rfl⟩, ?_⟩)
  | ((with_reducible show if (!false) = true then _ else _); refine iteT ?_) | ((with_reducible show if (!true) = true then _ else _); refine iteF ?_)
  | ((with_reducible show if (!List.isEmpty []) = true then _ else _); refine iteF ?_) | ((with_reducible show if (!List.isEmpty (_ :: _)) = true then _ else _); refine iteT ?_)
  | fail)
local macro_rules | `(tactic| walk_at "pd1") => `(tactic| first
  | ((with_reducible show ed _ _ _ _ _); walk_at "pd.ed")
  | ((with_reducible show opd _ _ _ _ _ _ _); walk_at "pd.opd")
  | ((with_reducible show ea _ [] _ _ _); refine ea_nil ?_)
  | ((with_reducible show ea _ (Expr.Starred _ _ :: _) _ _ _); refine ea_star ?_)
  | ((with_reducible show ea _ (_ :: _) _ _ _); refine ea_cons ?_)
  | ((with_reducible show et _ _ _ _ _); walk_at "pd.et")
  | ((with_reducible show sds _ (_ :: _) _ _ _); refine sds_cons ?_)
  | ((with_reducible show sds _ [] _ _ _); refine sds_nil ?_)
  | ((with_reducible show sd _ _ _ _ _); walk_at "pd.sd")
  | walk_at "pd.l"
  | ((with_reducible show cld _ _ _ _ _ _); walk_at "pd.cld")
  | ((with_reducible show ew _ _ _ _ _); walk_at "pd.ew")
  | ((with_reducible show ixd _ _ _ _ _ _); walk_at "pd.ixd")
  | ((with_reducible show gd _ _ _ _ _ _); walk_at "pd.gd")
  | ((with_reducible show gv _ _ _ _ _ _ _); walk_at "pd.gd")
  | ((with_reducible show gds _ [] [] _ _ _); refine gds_nil ?_)
  | ((with_reducible show gds _ (_ :: _) (_ :: _) _ _ _); refine gds_cons ?_)
  | ((with_reducible show gvs _ [] [] _ _ _ _); refine gvs_nil ?_)
  | ((with_reducible show gvs _ (_ :: _) (_ :: _) _ _ _ _); refine gvs_cons ?_)
  | ((with_reducible show PD.allB _ _ _); intro _ _ _ _ _ _ _ _)
  | ((with_reducible show PD.allX _ _ _ _); intro _ _ _ _ _ _ _ _ _ _ _)
  | ((with_reducible show eif _ [] _ _ _); refine eif_nil ?_)
  | ((with_reducible show eif _ [_] _ _ _); refine eif_one ?_)
  | ((with_reducible show eif _ (_ :: _ :: _) _ _ _); refine eif_cons ?_)
  | ((with_reducible show eo _ none _ _ _); refine eo_none ?_)
  | ((with_reducible show eo _ (some _) _ _ _); refine eo_some ?_)
  | ((with_reducible show slc _ (D.lst _) _ _ _ _ _); refine slc_lst ?_)
  | ((with_reducible show slc _ (D.str _) _ _ _ _ _); refine slc_str (by walk_at "pd.side") ?_)
  | ((with_reducible show mtd _ "str.startswith" (D.str _) [D.str _] _ _ _); refine mtd_startswith ?_)
  | ((with_reducible show ∃ (xs : List D), SeqD _ (D.ref _) xs ∧ _); refine ⟨_, .own (by walk_at "pd.mem"), ?_⟩)
  | ((with_reducible show InsD _ _ _ _ ∧ _); refine ⟨⟨rfl, by decide⟩, ?_⟩)
  | ((with_reducible show ∃ (xs : List D), SeqD _ (D.lst _) xs ∧ _); refine ⟨_, .lst _, ?_⟩)
  | ((with_reducible show ∃ (xs : List D), SeqD _ (D.tup _) xs ∧ _); refine ⟨_, .tup _, ?_⟩)
  | ((with_reducible show slc _ (D.tup _) _ _ _ _ _); refine slc_tup ?_)
  | ((with_reducible show slc _ (D.rl _) _ _ _ _ _); refine slc_rl ?_)
  | ((with_reducible show eid _ _ _ _ _ _); walk_at "pd.it")
  | ((with_reducible show itd _ _ (D.str _) _ _ _); refine itd_str ?_)
  | ((with_reducible show itd _ _ (D.lst _) _ _ _); refine itd_lst ?_)
  | ((with_reducible show itd _ _ (D.tup _) _ _ _); refine itd_tup ?_)
  | ((with_reducible show itd _ _ (D.rl _) _ _ _); refine itd_rl ?_)
  | ((with_reducible show und _ (unaryOp UnaryOp.USub) (D.int _) _ _ _); refine und_neg ?_)
  | fail)
/-- the steps one after another -/
local macro_rules | `(tactic| walk_at "pd") => `(tactic| repeat' walk_at "pd1")
/-- the steps up to the next statement -/
local macro_rules | `(tactic| walk_at "pdS1") => `(tactic| (fail_if_success (with_reducible show sds _ (_ :: _) _ _ _)); walk_at "pd1")
local macro_rules | `(tactic| walk_at "pdS") => `(tactic| repeat' walk_at "pdS1")
/-- the steps up to the next list display -/
local macro_rules | `(tactic| walk_at "pdL1") => `(tactic| (fail_if_success (with_reducible show ed _ (Expr.List _ _) _ _ _)); walk_at "pd1")
local macro_rules | `(tactic| walk_at "pdL") => `(tactic| repeat' walk_at "pdL1")
/-- the steps up to a field's owner -/
local macro_rules | `(tactic| walk_at "pdF1") => `(tactic| (fail_if_success (with_reducible show ∃ (d : D), FldD _ _ _ _ d ∧ _)); walk_at "pd1")
local macro_rules | `(tactic| walk_at "pdF") => `(tactic| repeat' walk_at "pdF1")
local macro_rules | `(tactic| walk_at "pd.fldX") => `(tactic| first | refine ⟨_, ⟨by (with_reducible refine ga_same ?_); rfl, by rfl⟩, ?_⟩ | refine ⟨_, ⟨_, _, _, by walk_at "pd.mem", rfl⟩, ?_⟩)
/-- the steps up to the next subscript -/
local macro_rules | `(tactic| walk_at "pdX1") => `(tactic| (fail_if_success (with_reducible show ed _ (Expr.Subscript _ _ _) _ _ _)); walk_at "pd1")
local macro_rules | `(tactic| walk_at "pdX") => `(tactic| repeat' walk_at "pdX1")
/-! ### the source of draws -/
/-- the deal: two owned lists -/
@[reducible] def dealM (p q : Addr) (l : List Int) (m : Int) : Mu := [(p, .lst [.ref q, .int m]), (q, .lst (l.map .int))]
structure DealOk (l : List Int) (m : Int) : Prop where
  m0 : 0 ≤ m
  m1 : m < 2147483647
  l0 : ∀ z ∈ l, 0 ≤ z
  ll : l.length ≤ 100
/-- the cells with the deal ahead -/
def Deal (p q : Addr) (μr μ : Mu) : Prop := ∃ l m, DealOk l m ∧ μ = dealM p q l m ++ μr
section
variable {P : Program} {w : World} {K : PySem.W.Frag} {mg : Str → Option Value} {base : Heap}
def spDraw : SpD := fun ds μ Q _ => ∃ p q μr n, ds = [.ref p, .int n] ∧ Deal p q μr μ ∧ 0 < n ∧ n < 1000000 ∧ ∀ r μ', 0 ≤ r → r < n → Deal p q μr μ' → Q (.int r) μ'
section
abbrev N_draw : List Str := ["_law_deal_here", "_law_many", "_law_left"]
theorem sc_draw : FnScope N_draw ["_law_deal_here", "_law_many"] (defScope sdraw) := ⟨rfl, rfl, rfl, by decide +kernel, rfl, by decide +kernel, by decide +kernel⟩
theorem v_draw_deal_here : Nm N_draw (defScope sdraw) 0 "_law_deal_here" := ⟨rfl, by decide +kernel, by decide +kernel, by decide +kernel⟩
theorem v_draw_many : Nm N_draw (defScope sdraw) 1 "_law_many" := ⟨rfl, by decide +kernel, by decide +kernel, by decide +kernel⟩
theorem v_draw_left : Nm N_draw (defScope sdraw) 2 "_law_left" := ⟨rfl, by decide +kernel, by decide +kernel, by decide +kernel⟩
theorem gl_draw_int : (defScope sdraw).names.lookup ("int" : Str) = some .globalImplicit := by decide +kernel
local macro_rules | `(tactic| walk_at "pd.nm") => `(tactic| first
  | ((with_reducible show ed _ (Expr.Name "_law_deal_here" _) _ _ _); first | refine ed_nm v_draw_deal_here rfl ?_ | refine ed_nmB (sc := defScope sdraw) v_draw_deal_here rfl ?_)
  | ((with_reducible show ed _ (Expr.Name "_law_many" _) _ _ _); first | refine ed_nm v_draw_many rfl ?_ | refine ed_nmB (sc := defScope sdraw) v_draw_many rfl ?_)
  | ((with_reducible show ed _ (Expr.Name "_law_left" _) _ _ _); first | refine ed_nm v_draw_left rfl ?_ | refine ed_nmB (sc := defScope sdraw) v_draw_left rfl ?_)
  | ((with_reducible show ed _ (Expr.Name "int" _) _ _ _); refine ed_ty (n := "int") (b_int (by assumption)) bb_int ?_ (hg := by first | exact gl_of gl_draw_int))
  | fail)
local macro_rules | `(tactic| walk_at "pd.set") => `(tactic| first
  | ((with_reducible show sd _ (Stmt.Assign [Expr.Name "_law_left" _] _ _) _ _ _); refine sd_nm v_draw_left sc_draw.nd ?_)
  | fail)
local macro_rules | `(tactic| walk_at "pd.g") => `(tactic| first
  | ((with_reducible show gd _ (Expr.Name "_law_left" _) _ _ _ _); refine gd_nm v_draw_left sc_draw.nd ?_)
  | fail)
local macro_rules | `(tactic| walk_at "pd.call") => `(tactic| first
  | ((with_reducible show ed _ (Expr.Call (Expr.Attribute _ "pop" _) [] _ _) _ _ _); with_reducible refine ed_bm0 PySem.F.plainAttrs_list PySem.F.slot_list_pop PySem.F.type_list_pop ?_)
  | ((with_reducible show ed _ (Expr.Call (Expr.Attribute _ "append" _) (_ :: _) _ _) _ _ _); with_reducible refine ed_bm PySem.F.plainAttrs_list PySem.F.slot_list_append PySem.F.type_list_append ?_)
  | ((with_reducible show ed _ (Expr.Call (Expr.Name "int" _) (_ :: _) _ _) _ _ _); refine ed_callTy (T := "int") (b_int (by assumption)) bb_int ?_ (hg := by first | exact gl_of gl_draw_int))
  | fail)
local macro_rules | `(tactic| walk_at "pd.it") => `(tactic| first
  | ((with_reducible show eid _ _ _ _ _ _); refine eid_of ?_)
  | fail)
theorem ok_draw (T : T0 w K mg) : CallD P w K mg base 1 (He.ga K "_law_draw") 2 [] spDraw := by
  obtain ⟨fd, F⟩ := f_draw T
  refine CallD.mk0 (ps := ["_law_deal_here", "_law_many"]) F (fun _ _ _ _ _ _ us hl => match us, hl with | [_, _], _ => rfl) (fnD_of F sc_draw fun cdv A outer s H F0 μ ds Qd Ed hr hl h => ?_)
  obtain ⟨p, q, μr, n, rfl, ⟨l, m, ⟨hm0, hm1, hl0, hl1⟩, rfl⟩, hn0, hn1, k⟩ := h
  have hu := hr.units
  have hq : ∀ (l' : List Int) (m' : Int), (q, Cell.lst (l'.map .int)) ∈ dealM p q l' m' ++ μr := fun l' _ => List.mem_cons_of_mem _ List.mem_cons_self
  show sds _ _ [some (.ref p), some (.int n), none] _ _
  -- while
  refine sds_cut (fun δ' μ' => ∃ l', δ' = [some (.ref p), some (.int n), none] ∧ μ' = dealM p q l' m ++ μr ∧ (∀ z ∈ l', 0 ≤ z) ∧ l'.length ≤ 100) ?_ ?_
  · refine sd_while (fun x δ' μ' => ∃ l', δ' = [some (.ref p), some (.int n), none] ∧ μ' = dealM p q l' m ++ μr ∧ x = l'.length ∧ (∀ z ∈ l', 0 ≤ z) ∧ l'.length ≤ 100) l.length ⟨l, rfl, rfl, rfl, hl0, hl1⟩ ?_
    rintro x δ' μ' ⟨l', rfl, rfl, rfl, h1, h2⟩
    walk_at "pd"
    refine opd_neV (x' := .lst (l'.map .int)) (y' := .lst []) hu (.own (hq _ _)) (.same _) (ok_ints _) (by rfl) (depth_ints _) (by decide) ?_
    rw [eqD_nil]
    rcases nil_or_snoc l' with rfl | ⟨l0, z, rfl⟩
    · walk_at "pd"
      exact ⟨[], rfl, rfl, h1, h2⟩
    · rw [map_concat_int]
      have e : (l0.map D.int ++ [D.int z]).isEmpty = false := by cases l0 <;> rfl
      rw [e]
      have h3 : (q, Cell.lst (l0.map D.int ++ [D.int z])) ∈ dealM p q (l0 ++ [z]) m ++ μr := by
        have := hq (l0 ++ [z]) m
        rw [map_concat_int] at this; exact this
      walk_at "pd"
      refine ixd_own h3 (atI_last' _ _) ?_
      walk_at "pd"
      refine ite2 (fun hz => ?_) (fun hz => ?_)
      · walk_at "pd"
        have eμ : dealM p q (l0 ++ [z]) m ++ μr = [(p, Cell.lst [.ref q, .int m])] ++ (q, Cell.lst (l0.map D.int ++ [D.int z])) :: μr := by
          show [(p, Cell.lst [.ref q, .int m]), (q, Cell.lst ((l0 ++ [z]).map D.int))] ++ μr = _
          rw [map_concat_int]; rfl
        rw [eμ]
        refine mtd_pop (d := .int z) (by simp) ?_
        rw [List.dropLast_concat]
        walk_at "pd"
        exact ⟨l0.length, by simp, l0, rfl, rfl, rfl, fun y hy => h1 y (by simp [hy]), by simp at h2; omega⟩
      · walk_at "pd"
        exact ⟨l0 ++ [z], rfl, rfl, h1, h2⟩
  · rintro δ' μ' ⟨l', rfl, rfl, h1, h2⟩
    walk_at "pd"
    refine opd_neV (x' := .lst (l'.map .int)) (y' := .lst []) hu (.own (hq _ _)) (.same _) (ok_ints _) (by rfl) (depth_ints _) (by decide) ?_
    rw [eqD_nil]
    rcases nil_or_snoc l' with rfl | ⟨l0, z, rfl⟩
    · rw [List.map_nil]
      walk_at "pd"
      refine ⟨p, 1, 1, [.ref q, .int m], [], _, rfl, rfl, rfl, rfl, ?_⟩
      walk_at "pd"
      exact k _ _ (Int.emod_nonneg _ (by omega)) (Int.emod_lt_of_pos _ hn0) ⟨[], _, ⟨Int.emod_nonneg _ (by decide), Int.emod_lt_of_pos _ (by decide), (fun z hz => by cases hz), by decide⟩, rfl⟩
    · rw [map_concat_int]
      have e : (l0.map D.int ++ [D.int z]).isEmpty = false := by cases l0 <;> rfl
      rw [e]
      have eμ : dealM p q (l0 ++ [z]) m ++ μr = [(p, Cell.lst [.ref q, .int m])] ++ (q, Cell.lst (l0.map D.int ++ [D.int z])) :: μr := by
        show [(p, Cell.lst [.ref q, .int m]), (q, Cell.lst ((l0 ++ [z]).map D.int))] ++ μr = _
        rw [map_concat_int]; rfl
      rw [eμ]
      walk_at "pd"
      refine mtd_pop (d := .int z) (by simp) ?_
      rw [List.dropLast_concat]
      walk_at "pd"
      refine mtd_append (μ1 := [(p, _)]) (small_lt (by simp at h2 ⊢; omega)) ?_
      rw [← map_concat_int]
      have z0 : 0 ≤ z := h1 z (by simp)
      have z1 : 0 ≤ z / n := Int.ediv_nonneg z0 (by omega)
      walk_at "pd"
      refine k _ _ (Int.emod_nonneg _ (by omega)) (Int.emod_lt_of_pos _ hn0) ⟨l0 ++ [z / n], m, ⟨hm0, hm1, fun y hy => ?_, by simp at h2 ⊢; omega⟩, rfl⟩
      rcases List.mem_append.mp hy with e | e
      · exact h1 y (by simp [e])
      · rw [List.mem_singleton.mp e]; exact z1
end
/-! ### one of some things -/
def spPick : SpD := fun ds μ Q _ => ∃ p q μr x xs, ds = [.ref p, x] ∧ (x = .lst xs ∨ x = .tup xs) ∧ Deal p q μr μ ∧ xs ≠ [] ∧ xs.length < 1000000 ∧ ∀ d ∈ xs, ∀ μ', Deal p q μr μ' → Q d μ'
theorem atI_in {α : Type} {xs : List α} {r : Int} (h0 : 0 ≤ r) (h1 : r < xs.length) : ∃ d ∈ xs, atI xs r = some d := by
  have h : r.toNat < xs.length := by omega
  have e := atI_nat (xs := xs) (j := r.toNat) (List.getElem?_eq_getElem h)
  rw [Int.toNat_of_nonneg h0] at e
  exact ⟨xs[r.toNat], List.getElem_mem h, e⟩
section
abbrev N_pick : List Str := ["_law_deal_here", "_law_some"]
theorem sc_pick : FnScope N_pick ["_law_deal_here", "_law_some"] (defScope spick) := ⟨rfl, rfl, rfl, by decide +kernel, rfl, by decide +kernel, by decide +kernel⟩
theorem v_pick_deal_here : Nm N_pick (defScope spick) 0 "_law_deal_here" := ⟨rfl, by decide +kernel, by decide +kernel, by decide +kernel⟩
theorem v_pick_some : Nm N_pick (defScope spick) 1 "_law_some" := ⟨rfl, by decide +kernel, by decide +kernel, by decide +kernel⟩
theorem gl_pick_draw : (defScope spick).names.lookup ("_law_draw" : Str) = some .globalImplicit := by decide +kernel
theorem gl_pick_len : (defScope spick).names.lookup ("len" : Str) = some .globalImplicit := by decide +kernel
local macro_rules | `(tactic| walk_at "pd.nm") => `(tactic| first
  | ((with_reducible show ed _ (Expr.Name "_law_deal_here" _) _ _ _); first | refine ed_nm v_pick_deal_here rfl ?_ | refine ed_nmB (sc := defScope spick) v_pick_deal_here rfl ?_)
  | ((with_reducible show ed _ (Expr.Name "_law_some" _) _ _ _); first | refine ed_nm v_pick_some rfl ?_ | refine ed_nmB (sc := defScope spick) v_pick_some rfl ?_)
  | fail)
local macro_rules | `(tactic| walk_at "pd.call") => `(tactic| first
  | ((with_reducible show ed _ (Expr.Call (Expr.Name "_law_draw" _) (_ :: _) _ _) _ _ _); refine ed_callC ((ok_draw (by assumption)).at_ _) (by assumption) (by decide) (g_draw (by assumption)) ?_ (hg := by first | exact gl_of gl_pick_draw))
  | ((with_reducible show ed _ (Expr.Call (Expr.Name "len" _) (_ :: _) _ _) _ _ _); refine ed_callB (id := "len") (b_len (by assumption)) bb_len ?_ (hg := by first | exact gl_of gl_pick_len))
  | fail)
local macro_rules | `(tactic| walk_at "pd.it") => `(tactic| first
  | ((with_reducible show eid _ _ _ _ _ _); refine eid_of ?_)
  | fail)
theorem ok_pick (T : T0 w K mg) : CallD P w K mg base 2 (He.ga K "_law_pick") 2 [] spPick := by
  obtain ⟨fd, F⟩ := f_pick T
  refine CallD.mk0 (ps := ["_law_deal_here", "_law_some"]) F (fun _ _ _ _ _ _ us hl => match us, hl with | [_, _], _ => rfl) (fnD_of F sc_pick fun cdv A outer s H F0 μ ds Qd Ed hr hl h => ?_)
  obtain ⟨p, q, μr, x, xs, rfl, hx, hD, hne, hlen, k⟩ := h
  have hpos : 0 < xs.length := List.length_pos_iff.mpr hne
  show sds _ _ [some (.ref p), some x] _ _
  refine sds_cons ?_
  rcases hx with rfl | rfl
  · walk_at "pd"
    refine ⟨p, q, μr, _, rfl, hD, by omega, by omega, fun r μ' h0 h1 hD' => ?_⟩
    obtain ⟨d, hd, e⟩ := atI_in h0 h1
    exact ixd_lst e (k d hd μ' hD')
  · walk_at "pd"
    refine ⟨p, q, μr, _, rfl, hD, by omega, by omega, fun r μ' h0 h1 hD' => ?_⟩
    obtain ⟨d, hd, e⟩ := atI_in h0 h1
    exact ixd_tup e (k d hd μ' hD')
end
end
section
variable {P : Program} {w : World} {K : PySem.W.Frag} {mg : Str → Option Value} {base : Heap}
/-! ### the deal is made -/
def spDeal : SpD := fun ds μ Q _ => ∃ (ns : List Int) (b : Int), ds = [.rl (ns.map .int), .int b] ∧ 0 ≤ b ∧ b ≤ 62 ∧ ns.length ≤ 63 ∧ ∀ p q μ', Deal p q μ μ' → Q (.ref p) μ'
section
abbrev N_deal : List Str := ["_law_script", "_law_base", "_law_cells", "_law_cell", "_law_mixed"]
theorem sc_deal : FnScope N_deal ["_law_script", "_law_base"] (defScope sdeal) := ⟨rfl, rfl, rfl, by decide +kernel, rfl, by decide +kernel, by decide +kernel⟩
theorem v_deal_script : Nm N_deal (defScope sdeal) 0 "_law_script" := ⟨rfl, by decide +kernel, by decide +kernel, by decide +kernel⟩
theorem v_deal_base : Nm N_deal (defScope sdeal) 1 "_law_base" := ⟨rfl, by decide +kernel, by decide +kernel, by decide +kernel⟩
theorem v_deal_cells : Nm N_deal (defScope sdeal) 2 "_law_cells" := ⟨rfl, by decide +kernel, by decide +kernel, by decide +kernel⟩
theorem v_deal_cell : Nm N_deal (defScope sdeal) 3 "_law_cell" := ⟨rfl, by decide +kernel, by decide +kernel, by decide +kernel⟩
theorem w_deal_cell : NmB N_deal 3 "_law_cell" := ⟨rfl, by decide +kernel, by decide +kernel⟩
theorem v_deal_mixed : Nm N_deal (defScope sdeal) 4 "_law_mixed" := ⟨rfl, by decide +kernel, by decide +kernel, by decide +kernel⟩
theorem gl_deal_int : (defScope sdeal).names.lookup ("int" : Str) = some .globalImplicit := by decide +kernel
theorem sl_deal_cells : (defScope sdeal).names.lookup ("_law_cells" : Str) = some .local := by decide +kernel
theorem sl_deal_cell : (defScope sdeal).names.lookup ("_law_cell" : Str) = some .local := by decide +kernel
theorem sl_deal_mixed : (defScope sdeal).names.lookup ("_law_mixed" : Str) = some .local := by decide +kernel
local macro_rules | `(tactic| walk_at "pd.nm") => `(tactic| first
  | ((with_reducible show ed _ (Expr.Name "_law_script" _) _ _ _); first | refine ed_nm v_deal_script rfl ?_ | refine ed_nmB (sc := defScope sdeal) v_deal_script rfl ?_)
  | ((with_reducible show ed _ (Expr.Name "_law_base" _) _ _ _); first | refine ed_nm v_deal_base rfl ?_ | refine ed_nmB (sc := defScope sdeal) v_deal_base rfl ?_)
  | ((with_reducible show ed _ (Expr.Name "_law_cells" _) _ _ _); first | refine ed_nm v_deal_cells rfl ?_ | refine ed_nmB (sc := defScope sdeal) v_deal_cells rfl ?_)
  | ((with_reducible show ed _ (Expr.Name "_law_cell" _) _ _ _); first | refine ed_nm v_deal_cell rfl ?_ | refine ed_nmB (sc := defScope sdeal) v_deal_cell rfl ?_)
  | ((with_reducible show ed _ (Expr.Name "_law_cell" _) _ _ _); refine ed_nmC (sc := defScope sdeal) w_deal_cell rfl ?_)
  | ((with_reducible show ed _ (Expr.Name "_law_mixed" _) _ _ _); first | refine ed_nm v_deal_mixed rfl ?_ | refine ed_nmB (sc := defScope sdeal) v_deal_mixed rfl ?_)
  | ((with_reducible show ed _ (Expr.Name "int" _) _ _ _); refine ed_ty (n := "int") (b_int (by assumption)) bb_int ?_ (hg := by first | exact gl_of gl_deal_int))
  | fail)
local macro_rules | `(tactic| walk_at "pd.set") => `(tactic| first
  | ((with_reducible show sd _ (Stmt.Assign [Expr.Name "_law_cells" _] (Expr.ListComp _ _ _ _) _) _ _ _); refine sd_setLc (own := [("_law_cell", 3)]) (i := 2) rfl sc_deal.nd rfl (by exact sl_deal_cells) (sw_true rfl (by exact sl_deal_cells) rfl (by decide +kernel)) (blkOk_by (N := N_deal) (sc := defScope sdeal) (by decide +kernel)) ?_)
  | ((with_reducible show sd _ (Stmt.Assign [Expr.Name "_law_cell" _] (Expr.ListComp _ _ _ _) _) _ _ _); refine sd_setLc (own := [("_law_cell", 3)]) (i := 3) rfl sc_deal.nd rfl (by exact sl_deal_cell) (sw_true rfl (by exact sl_deal_cell) rfl (by decide +kernel)) (blkOk_by (N := N_deal) (sc := defScope sdeal) (by decide +kernel)) ?_)
  | ((with_reducible show sd _ (Stmt.Assign [Expr.Name "_law_mixed" _] (Expr.ListComp _ _ _ _) _) _ _ _); refine sd_setLc (own := [("_law_cell", 3)]) (i := 4) rfl sc_deal.nd rfl (by exact sl_deal_mixed) (sw_true rfl (by exact sl_deal_mixed) rfl (by decide +kernel)) (blkOk_by (N := N_deal) (sc := defScope sdeal) (by decide +kernel)) ?_)
  | ((with_reducible show sd _ (Stmt.Assign [Expr.Name "_law_cells" _] _ _) _ _ _); refine sd_nm v_deal_cells sc_deal.nd ?_)
  | ((with_reducible show sd _ (Stmt.Assign [Expr.Name "_law_cell" _] _ _) _ _ _); refine sd_nm v_deal_cell sc_deal.nd ?_)
  | ((with_reducible show sd _ (Stmt.Assign [Expr.Name "_law_mixed" _] _ _) _ _ _); refine sd_nm v_deal_mixed sc_deal.nd ?_)
  | fail)
local macro_rules | `(tactic| walk_at "pd.g") => `(tactic| first
  | ((with_reducible show gd _ (Expr.Name "_law_cells" _) _ _ _ _); refine gd_nm v_deal_cells sc_deal.nd ?_)
  | ((with_reducible show gd _ (Expr.Name "_law_cell" _) _ _ _ _); refine gd_nm v_deal_cell sc_deal.nd ?_)
  | ((with_reducible show gv _ (Expr.Name "_law_cell" _) _ _ _ _ _); refine gv_nmC (sc := defScope sdeal) w_deal_cell sc_deal.nd (by decide) ?_)
  | ((with_reducible show gd _ (Expr.Name "_law_mixed" _) _ _ _ _); refine gd_nm v_deal_mixed sc_deal.nd ?_)
  | fail)
local macro_rules | `(tactic| walk_at "pd.call") => `(tactic| first
  | ((with_reducible show ed _ (Expr.Call (Expr.Name "abs" _) (_ :: _) _ _) _ _ _); refine ed_callB (id := "abs") (b_abs (by assumption)) bb_abs ?_ (hg := by first | exact glB_of (sc := defScope sdeal)))
  | ((with_reducible show ed _ (Expr.Call (Expr.Name "int" _) (_ :: _) _ _) _ _ _); refine ed_callTy (T := "int") (b_int (by assumption)) bb_int ?_ (hg := by first | exact gl_of gl_deal_int))
  | fail)
local macro_rules | `(tactic| walk_at "pd.lc") => `(tactic| first
  | ((with_reducible show ed _ (Expr.ListComp _ [_] _ _) _ _ _); refine ed_lc (own := [("_law_cell", 3)]) [("_law_cell", 3)] rfl rfl sc_deal.nd (blkOk_by (N := N_deal) (sc := defScope sdeal) (by decide +kernel)) ?_)
  | fail)
local macro_rules | `(tactic| walk_at "pd.it") => `(tactic| first
  | ((with_reducible show eid _ _ _ _ _ _); refine eid_of ?_)
  | fail)
theorem ok_deal (T : T0 w K mg) : CallD P w K mg base 1 (He.ga K "_law_deal") 2 [] spDeal := by
  obtain ⟨fd, F⟩ := f_deal T
  refine CallD.mk0 (ps := ["_law_script", "_law_base"]) F (fun _ _ _ _ _ _ us hl => match us, hl with | [_, _], _ => rfl) (fnD_of F sc_deal fun cdv A outer s H F0 μ ds Qd Ed hr hl h => ?_)
  obtain ⟨ns, b, rfl, hb0, hb1, hn, k⟩ := h
  have hu := hr.units
  show sds _ _ [some (.rl (ns.map .int)), some (.int b), none, none, none] _ _
  refine sds_cons ?_
  walk_at "pd"
  refine lcd_fm (fun _ => true) (fun d => .int (if intOf d < 0 then -intOf d else intOf d)) ?_
  walk_at "pd"
  obtain ⟨ys, e, h1, -⟩ := cut_ints ns (some b) (some 63)
  rw [e]
  refine ⟨by rw [List.length_map]; omega, trivial, fun d hd => ?_, ?_⟩
  · obtain ⟨z, hz, rfl⟩ := List.mem_map.mp hd
    walk_at "pd"
    refine ⟨rfl, rfl, fun _ => ?_⟩
    walk_at "pd"
    exact ⟨rfl, rfl⟩
  · rw [fm_ints _ _ (fun z => if z < 0 then -z else z) (fun _ => rfl)]
    have hl : ((ys.filter (fun _ => true)).map (fun z : Int => if z < 0 then -z else z)).length ≤ 63 := by
      rw [List.length_map]; exact Nat.le_trans (List.length_filter_le _ _) (by omega)
    have h0 : ∀ z ∈ (ys.filter (fun _ => true)).map (fun z : Int => if z < 0 then -z else z), 0 ≤ z := by
      intro z hz
      obtain ⟨y, -, rfl⟩ := List.mem_map.mp hz
      show 0 ≤ if y < 0 then -y else y; split <;> omega
    generalize (ys.filter (fun _ => true)).map (fun z : Int => if z < 0 then -z else z) = cs at hl h0 ⊢
    walk_at "pd"
    refine sd_for rfl ?_
    walk_at "pd"
    refine ⟨fun i δ' μ' => ∃ x m, δ' = [some (.rl (ns.map .int)), some (.int b), some (.lst (cs.map .int)), x, some (.int m)] ∧ μ' = μ ∧ 0 ≤ m ∧ m < 2147483647, ⟨none, _, rfl, rfl, by omega, by omega⟩, fun _ _ _ _ _ => trivial, ?_, ?_⟩
    · rintro i d δ' μ' hd ⟨x, m, rfl, rfl, m0, m1⟩
      obtain ⟨z, hz, rfl⟩ := List.mem_map.mp (List.mem_of_getElem? hd)
      have z0 := h0 z hz
      walk_at "pd"
      exact ⟨_, _, rfl, rfl, Int.emod_nonneg _ (by decide), Int.emod_lt_of_pos _ (by decide)⟩
    · rintro δ' μ' ⟨x, m, rfl, rfl, m0, m1⟩
      refine sds_cons ?_
      refine sd_ret ?_
      refine ed_lstO ?_
      refine ea_cons ?_
      refine ed_revO ?_
      walk_at "pd"
      refine lcd_fm (fun d => decide (10 ^ 18 ≤ intOf d)) (fun d => d) ?_
      walk_at "pd"
      refine ⟨by rw [List.length_map]; omega, trivial, fun d hd => ?_, ?_⟩
      · obtain ⟨z, hz, rfl⟩ := List.mem_map.mp hd
        walk_at "pd"
        refine ⟨rfl, rfl, fun _ => ?_⟩
        walk_at "pd"
        exact ⟨rfl, rfl⟩
      · rw [fm_ints _ _ (fun z => z) (fun _ => rfl)]
        refine ⟨_, rfl, fun q => ?_⟩
        walk_at "pd"
        refine fun p => k p q _ ⟨(cs.filter (fun z => decide (10 ^ 18 ≤ z))).reverse, m, ⟨m0, m1, fun z hz => h0 z ?_, ?_⟩, ?_⟩
        · exact (List.mem_filter.mp (List.mem_reverse.mp hz)).1
        · rw [List.length_reverse]; exact Nat.le_trans (List.length_filter_le _ _) (by omega)
        · simp [dealM, intOf]; rfl
end
end
section
variable {P : Program} {w : World} {K : PySem.W.Frag} {mg : Str → Option Value} {base : Heap}
/-! ### words of rows -/
def testsOf (k : Str) : List Str := if k = "join" then ["loser points", "loser struck", "winner points", "winner struck"] else ["points", "struck"]
def marksL : List Str := ["bare", "empty", "strike", "wake"]
def deedsOf (k : Str) : List Str := if k = "new" then ["list", "lead", "sign"] else if k = "join" then (["move", "note", "mark", "point", "turn"] : List Str) ++ marksL else (if k = "back" then (["recall", "forget"] : List Str) else ["forget"]) ++ marksL
/-! ### any row -/
def kindsL : List Str := ["new", "join", "back", "sweep"]
def TestOk (k t : Str) : Prop := t ∈ testsOf k ∨ ∃ t0 ∈ testsOf k, t = "not " ++ t0
structure RowOk (k : Str) (ts ds : List Str) (a : Bool) : Prop where
  kd : k ∈ kindsL
  te : ∀ t ∈ ts, TestOk k t
  de : ∀ d ∈ ds, d ∈ deedsOf k
  an : a = false → ds = []
def rowTup (k : Str) (ts ds : List Str) (a : Bool) : D := .tup [.str k, .lst (ts.map .str), .lst (ds.map .str), .bl a]
theorem testsOf_len {k t : Str} (h : t ∈ testsOf k) : t.length ≤ 13 := by
  unfold testsOf at h
  split at h
  · have : ∀ t ∈ (["loser points", "loser struck", "winner points", "winner struck"] : List Str), t.length ≤ 13 := by decide
    exact this t h
  · have : ∀ t ∈ (["points", "struck"] : List Str), t.length ≤ 13 := by decide
    exact this t h
end
section
variable {P : Program} {w : World} {K : PySem.W.Frag} {mg : Str → Option Value} {base : Heap}
/-! ### tests and deeds of any value -/
def spSeqG (K : PySem.W.Frag) : SpD := fun ds μ Q _ => (∃ x, ds = [x] ∧ (tyN x).isSome = true ∧ Q (.bl (isSeqD x)) μ) ∨ (∃ x xs, ds = [x] ∧ SeqD μ x xs ∧ Q (.bl true) μ) ∨ ∃ x t, ds = [x] ∧ TyQ K μ x t ∧ PySem.W.kitAny K t [.type "list", .type "tuple"] = some false ∧ Q (.bl false) μ
section
abbrev N_is_sequence : List Str := ["thing"]
theorem sc_is_sequence : FnScope N_is_sequence ["thing"] (defScope sis_sequence) := ⟨rfl, rfl, rfl, by decide +kernel, rfl, by decide +kernel, by decide +kernel⟩
theorem v_is_sequence_thing : Nm N_is_sequence (defScope sis_sequence) 0 "thing" := ⟨rfl, by decide +kernel, by decide +kernel, by decide +kernel⟩
theorem gl_is_sequence_isinstance : (defScope sis_sequence).names.lookup ("isinstance" : Str) = some .globalImplicit := by decide +kernel
theorem gl_is_sequence_list : (defScope sis_sequence).names.lookup ("list" : Str) = some .globalImplicit := by decide +kernel
theorem gl_is_sequence_tuple : (defScope sis_sequence).names.lookup ("tuple" : Str) = some .globalImplicit := by decide +kernel
local macro_rules | `(tactic| walk_at "pd.nm") => `(tactic| first
  | ((with_reducible show ed _ (Expr.Name "thing" _) _ _ _); first | refine ed_nm v_is_sequence_thing rfl ?_ | refine ed_nmB (sc := defScope sis_sequence) v_is_sequence_thing rfl ?_)
  | ((with_reducible show ed _ (Expr.Name "list" _) _ _ _); refine ed_ty (n := "list") (b_list (by assumption)) bb_list ?_ (hg := by first | exact gl_of gl_is_sequence_list))
  | ((with_reducible show ed _ (Expr.Name "tuple" _) _ _ _); refine ed_ty (n := "tuple") (b_tuple (by assumption)) bb_tuple ?_ (hg := by first | exact gl_of gl_is_sequence_tuple))
  | fail)
local macro_rules | `(tactic| walk_at "pd.call") => `(tactic| first
  | ((with_reducible show ed _ (Expr.Call (Expr.Name "isinstance" _) (_ :: _) _ _) _ _ _); refine ed_callB (id := "isinstance") (b_isinstance (by assumption)) bb_isinstance ?_ (hg := by first | exact gl_of gl_is_sequence_isinstance))
  | fail)
local macro_rules | `(tactic| walk_at "pd.it") => `(tactic| first
  | ((with_reducible show eid _ _ _ _ _ _); refine eid_of ?_)
  | fail)
theorem ok_is_sequence (T : T0 w K mg) : CallD P w K mg base 1 (He.ga K "is_sequence") 1 [] (spSeqG K) := by
  obtain ⟨fd, F⟩ := f_is_sequence T
  refine CallD.mk0 (ps := ["thing"]) F (fun _ _ _ _ _ _ us hl => match us, hl with | [_], _ => rfl) (fnD_of F sc_is_sequence fun cdv A outer s H F0 μ ds Qd Ed hr hl h => ?_)
  rcases h with ⟨x, rfl, hx, q⟩ | ⟨x, xs, rfl, hx, q⟩ | ⟨x, t, rfl, hx, hk, q⟩
  · show sds _ _ [some x] _ _
    refine sds_cons ?_
    walk_at "pd"
    exact cld_isSeq hx q
  · show sds _ _ [some x] _ _
    refine sds_cons ?_
    walk_at "pd"
    exact cld_isiSeq hx q
  · show sds _ _ [some x] _ _
    refine sds_cons ?_
    walk_at "pd"
    exact cld_isiT hx (us := [.type "list", .type "tuple"]) rfl hk q
end
def isTestB (k t : Str) : Bool := decide ((if Txt.startswith t "not " = true then cutS t (some 4) none else t) ∈ testsOf k)
def isDeedB (k t : Str) : Bool := decide (t ∈ deedsOf k)
def isTestD (k : Str) : D → Bool | .str t => isTestB k t | _ => false
def isDeedD (k : Str) : D → Bool | .str t => isDeedB k t | _ => false
/-- a thing that may be asked: plain, no text too long -/
def AskD (x : D) : Prop := (tyN x).isSome = true ∧ ∀ z, x = .str z → z.length ≤ 100000
def spTestG : SpD := fun ds μ Q _ => ∃ x k, ds = [x, .str k] ∧ AskD x ∧ Q (.bl (isTestD k x)) μ
def spDeedG : SpD := fun ds μ Q _ => ∃ x k, ds = [x, .str k] ∧ AskD x ∧ k ∈ kindsL ∧ Q (.bl (isDeedD k x)) μ
section
abbrev N_is_test : List Str := ["thing", "kind", "text"]
theorem sc_is_test : FnScope N_is_test ["thing", "kind"] (defScope sis_test) := ⟨rfl, rfl, rfl, by decide +kernel, rfl, by decide +kernel, by decide +kernel⟩
theorem v_is_test_thing : Nm N_is_test (defScope sis_test) 0 "thing" := ⟨rfl, by decide +kernel, by decide +kernel, by decide +kernel⟩
theorem v_is_test_kind : Nm N_is_test (defScope sis_test) 1 "kind" := ⟨rfl, by decide +kernel, by decide +kernel, by decide +kernel⟩
theorem v_is_test_text : Nm N_is_test (defScope sis_test) 2 "text" := ⟨rfl, by decide +kernel, by decide +kernel, by decide +kernel⟩
theorem gl_is_test_OF_JOINS : (defScope sis_test).names.lookup ("OF_JOINS" : Str) = some .globalImplicit := by decide +kernel
theorem gl_is_test_OF_NAMED : (defScope sis_test).names.lookup ("OF_NAMED" : Str) = some .globalImplicit := by decide +kernel
theorem gl_is_test_isinstance : (defScope sis_test).names.lookup ("isinstance" : Str) = some .globalImplicit := by decide +kernel
theorem gl_is_test_str : (defScope sis_test).names.lookup ("str" : Str) = some .globalImplicit := by decide +kernel
local macro_rules | `(tactic| walk_at "pd.nm") => `(tactic| first
  | ((with_reducible show ed _ (Expr.Name "thing" _) _ _ _); first | refine ed_nm v_is_test_thing rfl ?_ | refine ed_nmB (sc := defScope sis_test) v_is_test_thing rfl ?_)
  | ((with_reducible show ed _ (Expr.Name "kind" _) _ _ _); first | refine ed_nm v_is_test_kind rfl ?_ | refine ed_nmB (sc := defScope sis_test) v_is_test_kind rfl ?_)
  | ((with_reducible show ed _ (Expr.Name "text" _) _ _ _); first | refine ed_nm v_is_test_text rfl ?_ | refine ed_nmB (sc := defScope sis_test) v_is_test_text rfl ?_)
  | ((with_reducible show ed _ (Expr.Name "OF_JOINS" _) _ _ _); refine ed_gtup (ys := cst_OF_JOINS) (g_OF_JOINS (by assumption)) (t_OF_JOINS (by assumption)) ?_ (hg := by first | exact gl_of gl_is_test_OF_JOINS))
  | ((with_reducible show ed _ (Expr.Name "OF_NAMED" _) _ _ _); refine ed_gtup (ys := cst_OF_NAMED) (g_OF_NAMED (by assumption)) (t_OF_NAMED (by assumption)) ?_ (hg := by first | exact gl_of gl_is_test_OF_NAMED))
  | ((with_reducible show ed _ (Expr.Name "str" _) _ _ _); refine ed_ty (n := "str") (b_str (by assumption)) bb_str ?_ (hg := by first | exact gl_of gl_is_test_str))
  | fail)
local macro_rules | `(tactic| walk_at "pd.set") => `(tactic| first
  | ((with_reducible show sd _ (Stmt.Assign [Expr.Name "text" _] _ _) _ _ _); refine sd_nm v_is_test_text sc_is_test.nd ?_)
  | fail)
local macro_rules | `(tactic| walk_at "pd.g") => `(tactic| first
  | ((with_reducible show gd _ (Expr.Name "text" _) _ _ _ _); refine gd_nm v_is_test_text sc_is_test.nd ?_)
  | fail)
local macro_rules | `(tactic| walk_at "pd.call") => `(tactic| first
  | ((with_reducible show ed _ (Expr.Call (Expr.Name "isinstance" _) (_ :: _) _ _) _ _ _); refine ed_callB (id := "isinstance") (b_isinstance (by assumption)) bb_isinstance ?_ (hg := by first | exact gl_of gl_is_test_isinstance))
  | ((with_reducible show ed _ (Expr.Call (Expr.Attribute _ "startswith" _) (_ :: _) _ _) _ _ _); with_reducible refine ed_bm PySem.F.plainAttrs_str PySem.F.slot_str_startswith PySem.F.type_str_startswith ?_)
  | fail)
local macro_rules | `(tactic| walk_at "pd.it") => `(tactic| first
  | ((with_reducible show eid _ _ _ _ _ _); refine eid_of ?_)
  | fail)
theorem ok_is_test (T : T0 w K mg) : CallD P w K mg base 1 (He.ga K "is_test") 2 [] spTestG := by
  obtain ⟨fd, F⟩ := f_is_test T
  refine CallD.mk0 (ps := ["thing", "kind"]) F (fun _ _ _ _ _ _ us hl => match us, hl with | [_, _], _ => rfl) (fnD_of F sc_is_test fun cdv A outer s H F0 μ ds Qd Ed hr hl h => ?_)
  obtain ⟨x, k, rfl, ⟨hx, ht⟩, q⟩ := h
  show sds _ _ [some x, some (.str k), none] _ _
  refine sds_cons ?_
  cases x with
  | str t =>
    have hts : t.length ≤ sizeLine := small_le (ht t rfl)
    change Qd (.bl (isTestB k t)) μ at q
    walk_at "pd"
    unfold isTestB testsOf at q
    refine ifb (fun h1 => ?_) (fun h1 => ?_)
    · rw [if_pos h1] at q
      walk_at "pd"
      refine ifd (fun hk => ?_) (fun hk => ?_)
      · rw [if_pos hk] at q
        walk_at "pd"
        exact q
      · rw [if_neg hk] at q
        walk_at "pd"
        exact q
    · simp only [h1, Bool.false_eq_true, if_false] at q
      walk_at "pd"
      refine ifd (fun hk => ?_) (fun hk => ?_)
      · rw [if_pos hk] at q
        walk_at "pd"
        exact q
      · rw [if_neg hk] at q
        walk_at "pd"
        exact q
  | _ =>
    first
    | (exfalso; revert hx; simp [tyN]; done)
    | (walk_at "pd"; first | exact q | (refine cld_isStr rfl ?_; walk_at "pd"; first | exact q | (refine iteT ?_; walk_at "pd"; exact q) | (refine iteF ?_; walk_at "pd"; exact q)))
end
section
abbrev N_is_deed : List Str := ["thing", "kind"]
theorem sc_is_deed : FnScope N_is_deed ["thing", "kind"] (defScope sis_deed) := ⟨rfl, rfl, rfl, by decide +kernel, rfl, by decide +kernel, by decide +kernel⟩
theorem v_is_deed_thing : Nm N_is_deed (defScope sis_deed) 0 "thing" := ⟨rfl, by decide +kernel, by decide +kernel, by decide +kernel⟩
theorem v_is_deed_kind : Nm N_is_deed (defScope sis_deed) 1 "kind" := ⟨rfl, by decide +kernel, by decide +kernel, by decide +kernel⟩
theorem gl_is_deed_DEEDS : (defScope sis_deed).names.lookup ("DEEDS" : Str) = some .globalImplicit := by decide +kernel
theorem gl_is_deed_isinstance : (defScope sis_deed).names.lookup ("isinstance" : Str) = some .globalImplicit := by decide +kernel
theorem gl_is_deed_str : (defScope sis_deed).names.lookup ("str" : Str) = some .globalImplicit := by decide +kernel
local macro_rules | `(tactic| walk_at "pd.nm") => `(tactic| first
  | ((with_reducible show ed _ (Expr.Name "thing" _) _ _ _); first | refine ed_nm v_is_deed_thing rfl ?_ | refine ed_nmB (sc := defScope sis_deed) v_is_deed_thing rfl ?_)
  | ((with_reducible show ed _ (Expr.Name "kind" _) _ _ _); first | refine ed_nm v_is_deed_kind rfl ?_ | refine ed_nmB (sc := defScope sis_deed) v_is_deed_kind rfl ?_)
  | ((with_reducible show ed _ (Expr.Name "DEEDS" _) _ _ _); refine ed_gref (g_DEEDS (by assumption)) ?_ (hg := by first | exact gl_of gl_is_deed_DEEDS))
  | ((with_reducible show ed _ (Expr.Name "str" _) _ _ _); refine ed_ty (n := "str") (b_str (by assumption)) bb_str ?_ (hg := by first | exact gl_of gl_is_deed_str))
  | fail)
local macro_rules | `(tactic| walk_at "pd.call") => `(tactic| first
  | ((with_reducible show ed _ (Expr.Call (Expr.Name "isinstance" _) (_ :: _) _ _) _ _ _); refine ed_callB (id := "isinstance") (b_isinstance (by assumption)) bb_isinstance ?_ (hg := by first | exact gl_of gl_is_deed_isinstance))
  | fail)
local macro_rules | `(tactic| walk_at "pd.it") => `(tactic| first
  | ((with_reducible show eid _ _ _ _ _ _); refine eid_of ?_)
  | fail)
theorem ok_is_deed (T : T0 w K mg) : CallD P w K mg base 1 (He.ga K "is_deed") 2 [] spDeedG := by
  obtain ⟨fd, F⟩ := f_is_deed T
  refine CallD.mk0 (ps := ["thing", "kind"]) F (fun _ _ _ _ _ _ us hl => match us, hl with | [_, _], _ => rfl) (fnD_of F sc_is_deed fun cdv A outer s H F0 μ ds Qd Ed hr hl h => ?_)
  obtain ⟨x, k, rfl, ⟨hx, -⟩, ht, q⟩ := h
  show sds _ _ [some x, some (.str k)] _ _
  refine sds_cons ?_
  cases x with
  | str t =>
    change Qd (.bl (isDeedB k t)) μ at q
    walk_at "pd"
    refine ixd_kdT (deedsOf k) (k_DEEDS T) (t_DEEDS T) ?_ ?_
    · revert ht; unfold kindsL; simp only [List.mem_cons, List.mem_nil_iff, or_false]
      rintro (rfl | rfl | rfl | rfl) <;> decide +kernel
    · walk_at "pd"
      exact q
  | _ =>
    first
    | (exfalso; revert hx; simp [tyN]; done)
    | (walk_at "pd"; first | exact q | (refine cld_isStr rfl ?_; walk_at "pd"; first | exact q | (refine iteT ?_; walk_at "pd"; exact q) | (refine iteF ?_; walk_at "pd"; exact q)))
end
end
section
variable {P : Program} {w : World} {K : PySem.W.Frag} {mg : Str → Option Value} {base : Heap}
/-! ### rows made or refused -/
def seqIt : D → Option (List D) | .lst xs => some xs | .tup xs => some xs | _ => none
def badT (k : Str) (x : D) : Bool := match seqIt x with | some ts => !ts.all (isTestD k) | none => true
def badD (k : Str) (x : D) : Bool := match seqIt x with | some ts => !ts.all (isDeedD k) | none => true
def badA (an x : D) : Bool := match an, seqIt x with | .bl a, some ws => !a && decide (0 < ws.length) | _, _ => true
def badK : D → Bool | .str k => !decide (k ∈ kindsL) | _ => true
def rowBad (kd te de an : D) : Option Str :=
  if badK kd then some "kind" else if badT (strOf kd) te then some "tests" else if badD (strOf kd) de then some "deeds" else if badA an de then some "answer" else none
/-- a plain thing whose items, if it is a list or a tuple, may be asked -/
structure SeqAsk (x : D) : Prop where
  ty : (tyN x).isSome = true
  norl : ∀ xs, x ≠ .rl xs
  it : ∀ xs, seqIt x = some xs → xs.length ≤ 1000 ∧ ∀ y ∈ xs, AskD y
theorem seqD_of {μ : Mu} {x : D} {xs : List D} (h : seqIt x = some xs) : SeqD μ x xs := by
  cases x <;> cases h
  · exact .lst _
  · exact .tup _
theorem isSeqD_some {x : D} {xs : List D} (h : seqIt x = some xs) : isSeqD x = true := by cases x <;> cases h <;> rfl
theorem isSeqD_none {x : D} (h : seqIt x = none) (hn : ∀ xs, x ≠ .rl xs) : isSeqD x = false := by
  cases x with
  | lst => cases h
  | tup => cases h
  | rl xs => exact absurd rfl (hn xs)
  | _ => rfl
def spRowG (K : PySem.W.Frag) : SpD := fun ds μ Q E => ∃ p dx μr kd te de an, ds = [.ref p, kd, te, de, an] ∧ μ = (p, .ins (He.ga K "Row") dx [] []) :: μr ∧ AskD kd ∧ SeqAsk te ∧ SeqAsk de ∧ (tyN an).isSome = true ∧
  (∀ w, rowBad kd te de an = some w → E (.ref (He.ga K "InvalidRow")) ["word"] [.str w] μ) ∧
  (∀ k ts ws a, kd = .str k → seqIt te = some ts → seqIt de = some ws → an = .bl a → rowBad kd te de an = none → Q .non ((p, .ins (He.ga K "Row") dx ["kind", "tests", "deeds", "answer"] [.str k, .tup ts, .tup ws, .bl a]) :: μr))
theorem all_map {α : Type} {f : α → Bool} {l : List α} : (l.map f).all id = l.all f := by
  induction l with
  | nil => rfl
  | cons a l ih => rw [List.map_cons, List.all_cons, List.all_cons, ih]; rfl
theorem fm_bl {g : D → D} {f : D → Bool} (h : ∀ y, g y = .bl (f y)) : ∀ ys : List D, (ys.filter (fun _ => true)).map g = (ys.map f).map .bl := fun ys => by
  rw [List.filter_eq_self.mpr fun _ _ => rfl, List.map_map]
  exact List.map_congr_left fun y _ => h y
section
abbrev N_Row_init : List Str := ["self", "kind", "tests", "deeds", "answer", "test", "deed"]
theorem sc_Row_init : FnScope N_Row_init ["self", "kind", "tests", "deeds", "answer"] (defScope sRow_init) := ⟨rfl, rfl, rfl, by decide +kernel, rfl, by decide +kernel, by decide +kernel⟩
theorem v_Row_init_self : Nm N_Row_init (defScope sRow_init) 0 "self" := ⟨rfl, by decide +kernel, by decide +kernel, by decide +kernel⟩
theorem v_Row_init_kind : Nm N_Row_init (defScope sRow_init) 1 "kind" := ⟨rfl, by decide +kernel, by decide +kernel, by decide +kernel⟩
theorem v_Row_init_tests : Nm N_Row_init (defScope sRow_init) 2 "tests" := ⟨rfl, by decide +kernel, by decide +kernel, by decide +kernel⟩
theorem v_Row_init_deeds : Nm N_Row_init (defScope sRow_init) 3 "deeds" := ⟨rfl, by decide +kernel, by decide +kernel, by decide +kernel⟩
theorem v_Row_init_answer : Nm N_Row_init (defScope sRow_init) 4 "answer" := ⟨rfl, by decide +kernel, by decide +kernel, by decide +kernel⟩
theorem w_Row_init_test : NmB N_Row_init 5 "test" := ⟨rfl, by decide +kernel, by decide +kernel⟩
theorem w_Row_init_deed : NmB N_Row_init 6 "deed" := ⟨rfl, by decide +kernel, by decide +kernel⟩
theorem gl_Row_init_InvalidRow : (defScope sRow_init).names.lookup ("InvalidRow" : Str) = some .globalImplicit := by decide +kernel
theorem gl_Row_init_KINDS : (defScope sRow_init).names.lookup ("KINDS" : Str) = some .globalImplicit := by decide +kernel
theorem gl_Row_init_all : (defScope sRow_init).names.lookup ("all" : Str) = some .globalImplicit := by decide +kernel
theorem gl_Row_init_bool : (defScope sRow_init).names.lookup ("bool" : Str) = some .globalImplicit := by decide +kernel
theorem gl_Row_init_is_sequence : (defScope sRow_init).names.lookup ("is_sequence" : Str) = some .globalImplicit := by decide +kernel
theorem gl_Row_init_isinstance : (defScope sRow_init).names.lookup ("isinstance" : Str) = some .globalImplicit := by decide +kernel
theorem gl_Row_init_len : (defScope sRow_init).names.lookup ("len" : Str) = some .globalImplicit := by decide +kernel
theorem gl_Row_init_str : (defScope sRow_init).names.lookup ("str" : Str) = some .globalImplicit := by decide +kernel
theorem gl_Row_init_tuple : (defScope sRow_init).names.lookup ("tuple" : Str) = some .globalImplicit := by decide +kernel
local macro_rules | `(tactic| walk_at "pd.nm") => `(tactic| first
  | ((with_reducible show ed _ (Expr.Name "self" _) _ _ _); first | refine ed_nm v_Row_init_self rfl ?_ | refine ed_nmB (sc := defScope sRow_init) v_Row_init_self rfl ?_)
  | ((with_reducible show ed _ (Expr.Name "kind" _) _ _ _); first | refine ed_nm v_Row_init_kind rfl ?_ | refine ed_nmB (sc := defScope sRow_init) v_Row_init_kind rfl ?_)
  | ((with_reducible show ed _ (Expr.Name "tests" _) _ _ _); first | refine ed_nm v_Row_init_tests rfl ?_ | refine ed_nmB (sc := defScope sRow_init) v_Row_init_tests rfl ?_)
  | ((with_reducible show ed _ (Expr.Name "deeds" _) _ _ _); first | refine ed_nm v_Row_init_deeds rfl ?_ | refine ed_nmB (sc := defScope sRow_init) v_Row_init_deeds rfl ?_)
  | ((with_reducible show ed _ (Expr.Name "answer" _) _ _ _); first | refine ed_nm v_Row_init_answer rfl ?_ | refine ed_nmB (sc := defScope sRow_init) v_Row_init_answer rfl ?_)
  | ((with_reducible show ed _ (Expr.Name "test" _) _ _ _); refine ed_nmC (sc := defScope sRow_init) w_Row_init_test rfl ?_)
  | ((with_reducible show ed _ (Expr.Name "deed" _) _ _ _); refine ed_nmC (sc := defScope sRow_init) w_Row_init_deed rfl ?_)
  | ((with_reducible show ed _ (Expr.Name "InvalidRow" _) _ _ _); refine ed_gref (g_InvalidRow (by assumption)) ?_ (hg := by first | exact gl_of gl_Row_init_InvalidRow))
  | ((with_reducible show ed _ (Expr.Name "KINDS" _) _ _ _); refine ed_gtup (ys := cst_KINDS) (g_KINDS (by assumption)) (t_KINDS (by assumption)) ?_ (hg := by first | exact gl_of gl_Row_init_KINDS))
  | ((with_reducible show ed _ (Expr.Name "bool" _) _ _ _); refine ed_ty (n := "bool") (b_bool (by assumption)) bb_bool ?_ (hg := by first | exact gl_of gl_Row_init_bool))
  | ((with_reducible show ed _ (Expr.Name "str" _) _ _ _); refine ed_ty (n := "str") (b_str (by assumption)) bb_str ?_ (hg := by first | exact gl_of gl_Row_init_str))
  | ((with_reducible show ed _ (Expr.Name "tuple" _) _ _ _); refine ed_ty (n := "tuple") (b_tuple (by assumption)) bb_tuple ?_ (hg := by first | exact gl_of gl_Row_init_tuple))
  | fail)
local macro_rules | `(tactic| walk_at "pd.g") => `(tactic| first
  | ((with_reducible show gv _ (Expr.Name "test" _) _ _ _ _ _); refine gv_nmC (sc := defScope sRow_init) w_Row_init_test sc_Row_init.nd (by decide) ?_)
  | ((with_reducible show gv _ (Expr.Name "deed" _) _ _ _ _ _); refine gv_nmC (sc := defScope sRow_init) w_Row_init_deed sc_Row_init.nd (by decide) ?_)
  | fail)
local macro_rules | `(tactic| walk_at "pd.call") => `(tactic| first
  | ((with_reducible show ed _ (Expr.Call (Expr.Name "tuple" _) (_ :: _) _ _) _ _ _); refine ed_callTy (T := "tuple") (b_tuple (by assumption)) bb_tuple ?_ (hg := by first | exact gl_of gl_Row_init_tuple))
  | ((with_reducible show ed _ (Expr.Call (Expr.Name "isinstance" _) (_ :: _) _ _) _ _ _); refine ed_callB (id := "isinstance") (b_isinstance (by assumption)) bb_isinstance ?_ (hg := by first | exact gl_of gl_Row_init_isinstance))
  | ((with_reducible show ed _ (Expr.Call (Expr.Name "is_sequence" _) (_ :: _) _ _) _ _ _); refine ed_callC ((ok_is_sequence (by assumption)).at_ _) (by assumption) (by decide) (g_is_sequence (by assumption)) ?_ (hg := by first | exact gl_of gl_Row_init_is_sequence))
  | ((with_reducible show ed _ (Expr.Call (Expr.Name "all" _) (_ :: _) _ _) _ _ _); refine ed_callB (id := "all") (b_all (by assumption)) bb_all ?_ (hg := by first | exact gl_of gl_Row_init_all))
  | ((with_reducible show ed _ (Expr.Call (Expr.Name "len" _) (_ :: _) _ _) _ _ _); refine ed_callB (id := "len") (b_len (by assumption)) bb_len ?_ (hg := by first | exact gl_of gl_Row_init_len))
  | ((with_reducible show ed _ (Expr.Call (Expr.Name "is_test" _) (_ :: _) _ _) _ _ _); refine ed_callC ((ok_is_test (by assumption)).at_ _) (by assumption) (by decide) (g_is_test (by assumption)) ?_ (hg := by first | exact glB_of (sc := defScope sRow_init)))
  | ((with_reducible show ed _ (Expr.Call (Expr.Name "is_deed" _) (_ :: _) _ _) _ _ _); refine ed_callC ((ok_is_deed (by assumption)).at_ _) (by assumption) (by decide) (g_is_deed (by assumption)) ?_ (hg := by first | exact glB_of (sc := defScope sRow_init)))
  | fail)
local macro_rules | `(tactic| walk_at "pd.lc") => `(tactic| first
  | ((with_reducible show ed _ (Expr.ListComp _ [_] _ _) _ _ _); refine ed_lc (own := [("test", 5)]) [("test", 5)] rfl rfl sc_Row_init.nd (blkOk_by (N := N_Row_init) (sc := defScope sRow_init) (by decide +kernel)) ?_)
  | ((with_reducible show ed _ (Expr.ListComp _ [_] _ _) _ _ _); refine ed_lc (own := [("deed", 6)]) [("deed", 6)] rfl rfl sc_Row_init.nd (blkOk_by (N := N_Row_init) (sc := defScope sRow_init) (by decide +kernel)) ?_)
  | fail)
local macro_rules | `(tactic| walk_at "pd.it") => `(tactic| first
  | ((with_reducible show eid _ _ _ _ _ _); refine eid_of ?_)
  | fail)
local macro_rules | `(tactic| walk_at "pd.sfld") => `(tactic| first
  | ((with_reducible show sd _ (Stmt.Assign [Expr.Attribute _ "kind" _] _ _) _ _ _); refine sd_fld (c_Row (by assumption)) (n_Row_kind (by assumption)) ?_)
  | ((with_reducible show sd _ (Stmt.Assign [Expr.Attribute _ "tests" _] _ _) _ _ _); refine sd_fld (c_Row (by assumption)) (n_Row_tests (by assumption)) ?_)
  | ((with_reducible show sd _ (Stmt.Assign [Expr.Attribute _ "deeds" _] _ _) _ _ _); refine sd_fld (c_Row (by assumption)) (n_Row_deeds (by assumption)) ?_)
  | ((with_reducible show sd _ (Stmt.Assign [Expr.Attribute _ "answer" _] _ _) _ _ _); refine sd_fld (c_Row (by assumption)) (n_Row_answer (by assumption)) ?_)
  | fail)
local macro_rules | `(tactic| walk_at "pd.raise") => `(tactic| first
  | ((with_reducible show sd _ (Stmt.Raise (some (Expr.Call (Expr.Name "InvalidRow" _) _ _ _)) none _) _ _ _); refine sd_raiseOwn rfl (x_InvalidRow (by assumption)) (by assumption) (by decide) (g_InvalidRow (by assumption)) ?_ (hg := by first | exact gl_of gl_Row_init_InvalidRow))
  | fail)
theorem fnd_Row_init (T : T0 w K mg) {fd : FuncData} (F : FunD K "__init__" "Row.__init__" (defArgs sRow_init) (defBody sRow_init) (defScope sRow_init) (dRow_init.dvs K) (dRow_init.kws K) (He.fAd K dRow_init.at_) fd) {b : Md} : FnD b P w K mg base 3 (He.fAd K dRow_init.at_) fd ["self", "kind", "tests", "deeds", "answer"] (spRowG K) := by
  refine fnD_of F sc_Row_init fun cdv A outer s H F0 μ ds Qd Ed hr hl h => ?_
  obtain ⟨p, dx, μr, kd, te, de, an, rfl, rfl, hkd, hte, hde, han, hE, hQ⟩ := h
  show sds _ _ [some (.ref p), some kd, some te, some de, some an, none, none] _ _
  have bad : badK kd = true → Ed (.ref (He.ga K "InvalidRow")) ["word"] [.str "kind"] ((p, .ins (He.ga K "Row") dx [] []) :: μr) := fun h => hE _ (by unfold rowBad; rw [h]; rfl)
  refine sds_cons ?_
  cases kd with
  | str k =>
    walk_at "pd"
    refine ifn (fun h1 => ?_) (fun h1 => ?_)
    · walk_at "pd"
      exact bad (by show (!decide (k ∈ kindsL)) = true; rw [decide_eq_false (by exact h1)]; rfl)
    have hk : badK (.str k) = false := by show (!decide (k ∈ kindsL)) = false; rw [decide_eq_true (by exact h1)]; rfl
    have bad2 : badT k te = true → Ed (.ref (He.ga K "InvalidRow")) ["word"] [.str "tests"] ((p, .ins (He.ga K "Row") dx [] []) :: μr) := fun h => hE _ (by unfold rowBad; rw [hk]; show (if badT k te = true then _ else _) = _; rw [h]; rfl)
    walk_at "pd"
    refine Or.inl ⟨te, rfl, hte.ty, ?_⟩
    cases e1 : seqIt te with
    | none =>
      rw [isSeqD_none e1 hte.norl]
      walk_at "pd"
      exact bad2 (by unfold badT; rw [e1])
    | some ts =>
      rw [isSeqD_some e1]
      obtain ⟨htn, hta⟩ := hte.it ts e1
      walk_at "pd"
      refine lcd_fm (fun _ => true) (fun d => .bl (isTestD k d)) ?_
      walk_at "pd"
      refine itd_seq (seqD_of e1) ⟨by omega, seqD_of e1, fun d hd => ?_, ?_⟩
      · walk_at "pd"
        refine ⟨rfl, rfl, fun _ => ?_⟩
        walk_at "pd"
        exact ⟨d, k, rfl, hta d hd, rfl, rfl⟩
      rw [fm_bl (f := isTestD k) fun _ => rfl]
      walk_at "pd"
      rw [all_map]
      refine ifb (fun h2 => ?_) (fun h2 => ?_)
      · walk_at "pd"
        exact bad2 (by unfold badT; rw [e1]; exact h2)
      have hT : badT k te = false := by unfold badT; rw [e1]; exact h2
      have bad3 : badD k de = true → Ed (.ref (He.ga K "InvalidRow")) ["word"] [.str "deeds"] ((p, .ins (He.ga K "Row") dx [] []) :: μr) := fun h => hE _ (by unfold rowBad; rw [hk]; show (if badT k te = true then _ else if badD k de = true then _ else _) = _; rw [hT, h]; rfl)
      walk_at "pd"
      refine Or.inl ⟨de, rfl, hde.ty, ?_⟩
      cases e3 : seqIt de with
      | none =>
        rw [isSeqD_none e3 hde.norl]
        walk_at "pd"
        exact bad3 (by unfold badD; rw [e3])
      | some ws =>
        rw [isSeqD_some e3]
        obtain ⟨hwn, hwa⟩ := hde.it ws e3
        walk_at "pd"
        refine lcd_fm (fun _ => true) (fun d => .bl (isDeedD k d)) ?_
        walk_at "pd"
        refine itd_seq (seqD_of e3) ⟨by omega, seqD_of e3, fun d hd => ?_, ?_⟩
        · walk_at "pd"
          refine ⟨rfl, rfl, fun _ => ?_⟩
          walk_at "pd"
          exact ⟨d, k, rfl, hwa d hd, h1, rfl, rfl⟩
        rw [fm_bl (f := isDeedD k) fun _ => rfl]
        walk_at "pd"
        rw [all_map]
        refine ifb (fun h4 => ?_) (fun h4 => ?_)
        · walk_at "pd"
          exact bad3 (by unfold badD; rw [e3]; exact h4)
        have hD : badD k de = false := by unfold badD; rw [e3]; exact h4
        have bad4 : badA an de = true → Ed (.ref (He.ga K "InvalidRow")) ["word"] [.str "answer"] ((p, .ins (He.ga K "Row") dx [] []) :: μr) := fun h => hE _ (by unfold rowBad; rw [hk]; show (if badT k te = true then _ else if badD k de = true then _ else if badA an de = true then _ else _) = _; rw [hT, hD, h]; rfl)
        have fin : ∀ a, an = .bl a → badA an de = false → Qd .non ((p, .ins (He.ga K "Row") dx ["kind", "tests", "deeds", "answer"] [.str k, .tup ts, .tup ws, .bl a]) :: μr) := fun a ea h => hQ k ts ws a rfl e1 e3 ea (by unfold rowBad; rw [hk]; show (if badT k te = true then _ else if badD k de = true then _ else if badA an de = true then _ else _) = _; rw [hT, hD, h]; rfl)
        walk_at "pd"
        refine cld_isBl han ?_
        cases an with
        | bl a =>
          cases a with
          | true =>
            walk_at "pd"
            refine cld_tuple_seq (seqD_of e1) ?_
            walk_at "pd"
            refine cld_tuple_seq (seqD_of e3) ?_
            walk_at "pd"
            exact fin true rfl (by unfold badA; rw [e3]; rfl)
          | false =>
            walk_at "pd"
            refine cld_len_seq (seqD_of e3) ?_
            walk_at "pd"
            refine ifd (fun h5 => ?_) (fun h5 => ?_)
            · walk_at "pd"
              exact bad4 (by unfold badA; rw [e3]; show decide (0 < ws.length) = true; exact decide_eq_true (by omega))
            · walk_at "pd"
              refine cld_tuple_seq (seqD_of e1) ?_
              walk_at "pd"
              refine cld_tuple_seq (seqD_of e3) ?_
              walk_at "pd"
              exact fin false rfl (by unfold badA; rw [e3]; show decide (0 < ws.length) = false; exact decide_eq_false (by omega))
        | _ =>
          walk_at "pd"
          exact bad4 (by unfold badA; rfl)
  | _ =>
    first
    | (exfalso; obtain ⟨hx, -⟩ := hkd; revert hx; simp [tyN]; done)
    | (walk_at "pd"; first | exact bad rfl | (refine cld_isStr rfl ?_; walk_at "pd"; exact bad rfl))
end
end
section
variable {P : Program} {w : World} {K : PySem.W.Frag} {mg : Str → Option Value} {base : Heap}
/-! ### the class Row, for any arguments -/
def rowDD (C : Addr) (k : Str) (ts ws : List D) (a : Bool) : D := .obj C ["kind", "tests", "deeds", "answer"] [.str k, .tup ts, .tup ws, .bl a]
def rowD (C : Addr) (k : Str) (ts ws : List Str) (a : Bool) : D := .obj C ["kind", "tests", "deeds", "answer"] [.str k, .tup (ts.map .str), .tup (ws.map .str), .bl a]
def spRowGC (K : PySem.W.Frag) : SpD := fun ds μ Q E => ∃ kd te de an, ds = [kd, te, de, an] ∧ AskD kd ∧ SeqAsk te ∧ SeqAsk de ∧ (tyN an).isSome = true ∧
  (∀ w p dx, rowBad kd te de an = some w → E (.ref (He.ga K "InvalidRow")) ["word"] [.str w] ((p, .ins (He.ga K "Row") dx [] []) :: μ)) ∧
  (∀ k ts ws a, kd = .str k → seqIt te = some ts → seqIt de = some ws → an = .bl a → rowBad kd te de an = none → Q (rowDD (He.ga K "Row") k ts ws a) μ)
theorem rowG_C {K : PySem.W.Frag} (ds : List D) (μ : Mu) (Q : D → Mu → Prop) (E : Value → List Str → List D → Mu → Prop) (h : spRowGC K ds μ Q E) (p dx : Addr) : spRowG K (.ref p :: ds) ((p, .ins (He.ga K "Row") dx [] []) :: μ) (Frz Q p (He.ga K "Row") dx) E := by
  obtain ⟨kd, te, de, an, rfl, h1, h2, h3, h4, hE, hQ⟩ := h
  exact ⟨p, dx, μ, kd, te, de, an, rfl, rfl, h1, h2, h3, h4, fun w h => hE w p dx h, fun k ts ws a e1 e2 e3 e4 e5 => ⟨rfl, _, _, [], μ, rfl, hQ k ts ws a e1 e2 e3 e4 e5⟩⟩
section
theorem cd_Row_init (T : T0 w K mg) (n j : Nat) (hn : n + (3 - j) = 5) (dds : List D) (hdd : DfD K dds ((dRow_init.dvs K).drop j))
    (h : ∀ (T : Addr) (kV doc pm : Value) (an : Option Addr) (cdv ct : Value) (us its : List Value), us.length = n → its.length = 3 →
      ∃ k, bindArgs (PySem.W.fnOf "__init__" "Row.__init__" (defArgs sRow_init) (defBody sRow_init) (defScope sRow_init) (.ref T) kV doc pm an cdv ct) ⟨us, []⟩ = seqItems? (.ref T) >>= k ∧ k (some its.toArray) = pure ((["self", "kind", "tests", "deeds", "answer"] : List Str).zip (us ++ its.drop j))) :
    CallD P w K mg base 3 (He.ma K (He.ga K "Row") "__init__") 5 dds (spRowG K) := by
  obtain ⟨fd, F⟩ := f_Row_init T
  exact CallD.mkD F (fnd_Row_init T F) n j (by intro h; cases h) hn dds hdd h
theorem mk_Row_4 (T : T0 w K mg) : MakeD P w K mg base 3 (He.ga K "Row") 4 [] (spRowGC K) :=
  ⟨_, _, k_Row T, cd_Row_init T 5 3 rfl [] DfD.nil (fun _ _ _ _ _ _ _ us its h1 h2 => match us, its, h1, h2 with | [_, _, _, _, _], [_, _, _], _, _ => ⟨_, rfl, rfl⟩), rowG_C⟩
end
end
section
variable {P : Program} {w : World} {K : PySem.W.Frag} {mg : Str → Option Value} {base : Heap}
/-! ### the text of a row -/
def ifPart (ts : List Str) : List Str := if ts = [] then [] else [Str.ofString "if", Txt.join " and " ts]
def doPart (ws : List Str) : List Str := if ws = [] then [] else [Str.ofString "do", Txt.join " then " ws]
def yesNo (a : Bool) : Str := if a then "yes" else "no"
def rowWords (k : Str) (ts ws : List Str) (a : Bool) : List Str := [k] ++ ifPart ts ++ doPart ws ++ [yesNo a]
def rowText (k : Str) (ts ws : List Str) (a : Bool) : Str := Txt.join " " (rowWords k ts ws a)
structure RowTxt (k : Str) (ts ws : List Str) : Prop where
  kl : k.length ≤ 20
  tl : ∀ t ∈ ts, t.length ≤ 20
  wl : ∀ t ∈ ws, t.length ≤ 20
  tn : ts.length ≤ 1000
  wn : ws.length ≤ 1000
section
abbrev N_Row_str : List Str := ["self", "words"]
theorem sc_Row_str : FnScope N_Row_str ["self"] (defScope sRow_str) := ⟨rfl, rfl, rfl, by decide +kernel, rfl, by decide +kernel, by decide +kernel⟩
theorem v_Row_str_self : Nm N_Row_str (defScope sRow_str) 0 "self" := ⟨rfl, by decide +kernel, by decide +kernel, by decide +kernel⟩
theorem v_Row_str_words : Nm N_Row_str (defScope sRow_str) 1 "words" := ⟨rfl, by decide +kernel, by decide +kernel, by decide +kernel⟩
theorem gl_Row_str_len : (defScope sRow_str).names.lookup ("len" : Str) = some .globalImplicit := by decide +kernel
local macro_rules | `(tactic| walk_at "pd.nm") => `(tactic| first
  | ((with_reducible show ed _ (Expr.Name "self" _) _ _ _); first | refine ed_nm v_Row_str_self rfl ?_ | refine ed_nmB (sc := defScope sRow_str) v_Row_str_self rfl ?_)
  | ((with_reducible show ed _ (Expr.Name "words" _) _ _ _); first | refine ed_nm v_Row_str_words rfl ?_ | refine ed_nmB (sc := defScope sRow_str) v_Row_str_words rfl ?_)
  | fail)
local macro_rules | `(tactic| walk_at "pd.set") => `(tactic| first
  | ((with_reducible show sd _ (Stmt.Assign [Expr.Name "words" _] _ _) _ _ _); refine sd_nm v_Row_str_words sc_Row_str.nd ?_)
  | fail)
local macro_rules | `(tactic| walk_at "pd.g") => `(tactic| first
  | ((with_reducible show gd _ (Expr.Name "words" _) _ _ _ _); refine gd_nm v_Row_str_words sc_Row_str.nd ?_)
  | fail)
local macro_rules | `(tactic| walk_at "pd.call") => `(tactic| first
  | ((with_reducible show ed _ (Expr.Call (Expr.Attribute _ "join" _) (_ :: _) _ _) _ _ _); with_reducible refine ed_bm PySem.F.plainAttrs_str PySem.F.slot_str_join PySem.F.type_str_join ?_)
  | ((with_reducible show ed _ (Expr.Call (Expr.Name "len" _) (_ :: _) _ _) _ _ _); refine ed_callB (id := "len") (b_len (by assumption)) bb_len ?_ (hg := by first | exact gl_of gl_Row_str_len))
  | ((with_reducible show ed _ (Expr.Call (Expr.Attribute _ "extend" _) (_ :: _) _ _) _ _ _); with_reducible refine ed_bm PySem.F.plainAttrs_list PySem.F.slot_list_extend PySem.F.type_list_extend ?_)
  | fail)
local macro_rules | `(tactic| walk_at "pd.it") => `(tactic| first
  | ((with_reducible show eid _ _ _ _ _ _); refine eid_of ?_)
  | fail)
local macro_rules | `(tactic| walk_at "pd.fld") => `(tactic| first
  | ((with_reducible show ed _ (Expr.Attribute _ "kind" _) _ _ _); refine ed_fld (c_Row (by assumption)) (n_Row_kind (by assumption)) ?_)
  | ((with_reducible show ed _ (Expr.Attribute _ "tests" _) _ _ _); refine ed_fld (c_Row (by assumption)) (n_Row_tests (by assumption)) ?_)
  | ((with_reducible show ed _ (Expr.Attribute _ "deeds" _) _ _ _); first | (refine ed_fld (c_Row (by assumption)) (n_Row_deeds (by assumption)) ?_; walk_at "pdF"; walk_at "pd.fldX") | (refine ed_fld (c_Store (by assumption)) (n_Store_deeds (by assumption)) ?_; walk_at "pdF"; walk_at "pd.fldX"))
  | ((with_reducible show ed _ (Expr.Attribute _ "answer" _) _ _ _); refine ed_fld (c_Row (by assumption)) (n_Row_answer (by assumption)) ?_)
  | fail)
end
end
section
variable {P : Program} {w : World} {K : PySem.W.Frag} {mg : Str → Option Value} {base : Heap}
/-! ### the text of a row tells the row -/
namespace RT
open TL
abbrev W := List Nat
def J (ps : List W) : W := joinL [32] ps
theorem joinL_app (S : W) : ∀ (A B : List W), A ≠ [] → B ≠ [] → joinL S (A ++ B) = joinL S A ++ (S ++ joinL S B)
  | [], _, h, _ => absurd rfl h
  | [p], [], _, h => absurd rfl h
  | [p], q :: r, _, _ => rfl
  | p :: q :: r, B, _, h => by
    show p ++ (S ++ joinL S ((q :: r) ++ B)) = (p ++ (S ++ joinL S (q :: r))) ++ (S ++ joinL S B)
    rw [joinL_app S (q :: r) B (by simp) h]
    simp [List.append_assoc]
theorem J_flat : ∀ (pss : List (List W)), (∀ ps ∈ pss, ps ≠ []) → J (pss.map J) = J pss.flatten
  | [], _ => rfl
  | [ps], _ => by simp [J, joinL]
  | ps :: qs :: r, h => by
    have ih := J_flat (qs :: r) fun x hx => h x (List.mem_cons_of_mem _ hx)
    have h1 := h ps List.mem_cons_self
    have h2 := h qs (List.mem_cons_of_mem _ List.mem_cons_self)
    have h3 : (qs :: r).flatten ≠ [] := by
      rw [List.flatten_cons]; intro z; exact h2 (List.append_eq_nil_iff.mp z).1
    show J ps ++ ([32] ++ J ((qs :: r).map J)) = J (ps ++ (qs :: r).flatten)
    rw [ih]; exact (joinL_app [32] ps _ h1 h3).symm
/-- parts with a word between -/
def inter (w : W) : List (List W) → List W
  | [] => []
  | [p] => p
  | p :: q :: r => p ++ w :: inter w (q :: r)
theorem inter_ne {w : W} : ∀ {ps : List (List W)}, ps ≠ [] → (∀ p ∈ ps, p ≠ []) → inter w ps ≠ []
  | [], h, _ => absurd rfl h
  | [p], _, h => h p List.mem_cons_self
  | p :: q :: r, _, _ => by show p ++ w :: _ ≠ []; simp
theorem J_inter {w : W} : ∀ {ps : List (List W)}, ps ≠ [] → (∀ p ∈ ps, p ≠ []) → joinL ([32] ++ w ++ [32]) (ps.map J) = J (inter w ps)
  | [], h, _ => absurd rfl h
  | [p], _, _ => rfl
  | p :: q :: r, _, h => by
    have ih := J_inter (w := w) (ps := q :: r) (by simp) fun x hx => h x (List.mem_cons_of_mem _ hx)
    have hn := inter_ne (w := w) (ps := q :: r) (by simp) fun x hx => h x (List.mem_cons_of_mem _ hx)
    show J p ++ (([32] ++ w ++ [32]) ++ joinL ([32] ++ w ++ [32]) ((q :: r).map J)) = J (p ++ w :: inter w (q :: r))
    rw [ih]
    have e1 : J (p ++ w :: inter w (q :: r)) = J p ++ ([32] ++ J (w :: inter w (q :: r))) := joinL_app [32] p _ (h p List.mem_cons_self) (by simp)
    have e2 : J (w :: inter w (q :: r)) = w ++ ([32] ++ J (inter w (q :: r))) := joinL_app [32] [w] _ (by simp) hn
    rw [e1, e2]; simp [List.append_assoc]
def cut (w : W) : List W → List (List W)
  | [] => [[]]
  | x :: xs => if x = w then [] :: cut w xs else match cut w xs with
    | c :: cs => (x :: c) :: cs
    | [] => [[x]]
theorem cut_part {w : W} : ∀ {p rest : List W}, w ∉ p → cut w (p ++ w :: rest) = p :: cut w rest
  | [], rest, _ => by show (if w = w then _ else _) = _; rw [if_pos rfl]
  | x :: p, rest, h => by
    have h1 : ¬ x = w := fun e => h (by rw [e]; exact List.mem_cons_self)
    show (if x = w then _ else _) = _
    rw [if_neg h1, show p.append (w :: rest) = p ++ w :: rest from rfl, cut_part fun z => h (List.mem_cons_of_mem _ z)]
theorem cut_last {w : W} : ∀ {p : List W}, w ∉ p → cut w p = [p]
  | [], _ => rfl
  | x :: p, h => by
    have h1 : ¬ x = w := fun e => h (by rw [e]; exact List.mem_cons_self)
    show (if x = w then _ else _) = _
    rw [if_neg h1, cut_last fun z => h (List.mem_cons_of_mem _ z)]
theorem cut_inter {w : W} : ∀ {ps : List (List W)}, ps ≠ [] → (∀ p ∈ ps, w ∉ p) → cut w (inter w ps) = ps
  | [], h, _ => absurd rfl h
  | [p], _, h => cut_last (h p List.mem_cons_self)
  | p :: q :: r, _, h => by
    show cut w (p ++ w :: inter w (q :: r)) = _
    rw [cut_part (h p List.mem_cons_self), cut_inter (by simp) fun x hx => h x (List.mem_cons_of_mem _ hx)]
theorem inter_mem {w x : W} : ∀ {ps : List (List W)}, x ∈ inter w ps → x = w ∨ ∃ p ∈ ps, x ∈ p
  | [], h => (List.not_mem_nil h).elim
  | [p], h => Or.inr ⟨p, List.mem_cons_self, h⟩
  | p :: q :: r, h => by
    rcases List.mem_append.mp (show x ∈ p ++ w :: inter w (q :: r) from h) with h | h
    · exact Or.inr ⟨p, List.mem_cons_self, h⟩
    · rcases List.mem_cons.mp h with h | h
      · exact Or.inl h
      · rcases inter_mem h with h | ⟨p', h1, h2⟩
        · exact Or.inl h
        · exact Or.inr ⟨p', List.mem_cons_of_mem _ h1, h2⟩
/-- the words of a test -/
def tk (t : Str) : List W := spl [32] 0 [] (tl t)
def allTests : List Str := ["loser points", "loser struck", "winner points", "winner struck", "points", "struck", "not loser points", "not loser struck", "not winner points", "not winner struck", "not points", "not struck"]
def wIf : W := tl "if"
def wAnd : W := tl "and"
def wDo : W := tl "do"
def wThen : W := tl "then"
theorem tests_fin : ∀ t ∈ allTests, J (tk t) = tl t ∧ tk t ≠ [] ∧ wAnd ∉ tk t ∧ wDo ∉ tk t ∧ ∀ x ∈ tk t, 32 ∉ x := by decide +kernel
def allDeeds : List Str := ["list", "lead", "sign", "move", "note", "mark", "point", "turn", "bare", "empty", "strike", "wake", "recall", "forget"]
theorem deeds_fin : ∀ t ∈ allDeeds, wThen ∉ [tl t] ∧ 32 ∉ tl t := by decide +kernel
theorem kinds_fin : ∀ t ∈ kindsL, 32 ∉ tl t := by decide +kernel
def ifT (ts : List Str) : List (List W) := if ts = [] then [] else [[wIf], inter wAnd (ts.map tk)]
def doT (ws : List Str) : List (List W) := if ws = [] then [] else [[wDo], inter wThen (ws.map fun w => [tl w])]
def groups (k : Str) (ts ws : List Str) (a : Bool) : List (List W) := [[tl k]] ++ ifT ts ++ doT ws ++ [[tl (yesNo a)]]
structure Fin' (k : Str) (ts ws : List Str) : Prop where
  k : k ∈ kindsL
  t : ∀ t ∈ ts, t ∈ allTests
  d : ∀ d ∈ ws, d ∈ allDeeds
theorem ifT_ne {ts : List Str} (h : ∀ t ∈ ts, t ∈ allTests) : ∀ g ∈ ifT ts, g ≠ [] := by
  unfold ifT
  split
  · intro g hg; exact (List.not_mem_nil hg).elim
  · next hn =>
    intro g hg
    rcases List.mem_cons.mp hg with rfl | hg
    · simp
    · rw [List.mem_singleton.mp hg]
      exact inter_ne (by simpa using hn) fun p hp => by
        obtain ⟨t, ht, rfl⟩ := List.mem_map.mp hp
        exact (tests_fin t (h t ht)).2.1
theorem doT_ne {ws : List Str} : ∀ g ∈ doT ws, g ≠ [] := by
  unfold doT
  split
  · intro g hg; exact (List.not_mem_nil hg).elim
  · next hn =>
    intro g hg
    rcases List.mem_cons.mp hg with rfl | hg
    · simp
    · rw [List.mem_singleton.mp hg]
      exact inter_ne (by simpa using hn) fun p hp => by
        obtain ⟨t, ht, rfl⟩ := List.mem_map.mp hp
        simp
theorem words_groups {k : Str} {ts ws : List Str} (a : Bool) (F : Fin' k ts ws) : (rowWords k ts ws a).map tl = (groups k ts ws a).map J := by
  have h1 : (ifPart ts).map tl = (ifT ts).map J := by
    unfold ifPart ifT
    split
    · rfl
    · next hn =>
      have e : tl (Txt.join " and " ts) = J (inter wAnd (ts.map tk)) := by
        rw [TL.join_eq, TL.tl_join, ← J_inter (by simpa using hn) (fun p hp => by
          obtain ⟨t, ht, rfl⟩ := List.mem_map.mp hp
          exact (tests_fin t (F.t t ht)).2.1), List.map_map]
        congr 1
        exact List.map_congr_left fun t ht => (tests_fin t (F.t t ht)).1.symm
      show [tl "if", tl (Txt.join " and " ts)] = [J [wIf], J (inter wAnd (ts.map tk))]
      rw [e]; rfl
  have h2 : (doPart ws).map tl = (doT ws).map J := by
    unfold doPart doT
    split
    · rfl
    · next hn =>
      have e : tl (Txt.join " then " ws) = J (inter wThen (ws.map fun w => [tl w])) := by
        rw [TL.join_eq, TL.tl_join, ← J_inter (by simpa using hn) (fun p hp => by
          obtain ⟨t, ht, rfl⟩ := List.mem_map.mp hp
          simp), List.map_map]
        rfl
      show [tl "do", tl (Txt.join " then " ws)] = [J [wDo], J (inter wThen (ws.map fun w => [tl w]))]
      rw [e]; rfl
  unfold rowWords groups
  rw [List.map_append, List.map_append, List.map_append, h1, h2, List.map_append, List.map_append, List.map_append]
  rfl
theorem text_toks {k : Str} {ts ws : List Str} (a : Bool) (F : Fin' k ts ws) : tl (rowText k ts ws a) = J (groups k ts ws a).flatten := by
  unfold rowText
  rw [TL.join_eq, TL.tl_join, words_groups a F]
  refine J_flat _ fun g hg => ?_
  unfold groups at hg
  rcases List.mem_append.mp hg with hg | hg
  · rcases List.mem_append.mp hg with hg | hg
    · rcases List.mem_append.mp hg with hg | hg
      · rw [List.mem_singleton.mp hg]; simp
      · exact ifT_ne F.t g hg
    · exact doT_ne g hg
  · rw [List.mem_singleton.mp hg]; simp
def I (ts : List Str) : List W := (ifT ts).flatten
def D' (ws : List Str) : List W := (doT ws).flatten
theorem groups_flat (k : Str) (ts ws : List Str) (a : Bool) : (groups k ts ws a).flatten = tl k :: (I ts ++ D' ws ++ [tl (yesNo a)]) := by
  unfold groups I D'
  simp [List.flatten_append, List.append_assoc]
theorem I_mem {ts : List Str} (h : ∀ t ∈ ts, t ∈ allTests) : ∀ x ∈ I ts, x ≠ wDo ∧ 32 ∉ x := by
  have w1 : wIf ≠ wDo ∧ 32 ∉ wIf := by decide
  have w2 : wAnd ≠ wDo ∧ 32 ∉ wAnd := by decide
  intro x hx
  unfold I ifT at hx
  split at hx
  · exact (List.not_mem_nil hx).elim
  · have hx' : x ∈ [wIf] ++ inter wAnd (ts.map tk) := by simpa using hx
    rcases List.mem_append.mp hx' with hx | hx
    · rw [List.mem_singleton.mp hx]; exact w1
    · rcases inter_mem hx with rfl | ⟨p, hp, hx⟩
      · exact w2
      · obtain ⟨t, ht, rfl⟩ := List.mem_map.mp hp
        have z := tests_fin t (h t ht)
        exact ⟨fun e => z.2.2.2.1 (e ▸ hx), z.2.2.2.2 x hx⟩
theorem D_mem {ws : List Str} (h : ∀ t ∈ ws, t ∈ allDeeds) : ∀ x ∈ D' ws, 32 ∉ x := by
  have w1 : 32 ∉ wDo := by decide
  have w2 : 32 ∉ wThen := by decide
  intro x hx
  unfold D' doT at hx
  split at hx
  · exact (List.not_mem_nil hx).elim
  · have hx' : x ∈ [wDo] ++ inter wThen (ws.map fun w => [tl w]) := by simpa using hx
    rcases List.mem_append.mp hx' with hx | hx
    · rw [List.mem_singleton.mp hx]; exact w1
    · rcases inter_mem hx with rfl | ⟨p, hp, hx⟩
      · exact w2
      · obtain ⟨t, ht, rfl⟩ := List.mem_map.mp hp
        rw [List.mem_singleton.mp hx]; exact (deeds_fin t (h t ht)).2
theorem toks_free {k : Str} {ts ws : List Str} (a : Bool) (F : Fin' k ts ws) : ∀ p ∈ (groups k ts ws a).flatten, 32 ∉ p := by
  intro p hp
  rw [groups_flat] at hp
  rcases List.mem_cons.mp hp with rfl | hp
  · exact kinds_fin k F.k
  · rcases List.mem_append.mp hp with hp | hp
    · rcases List.mem_append.mp hp with hp | hp
      · exact (I_mem F.t p hp).2
      · exact D_mem F.d p hp
    · rw [List.mem_singleton.mp hp]; cases a <;> decide
end RT
end
section
variable {P : Program} {w : World} {K : PySem.W.Frag} {mg : Str → Option Value} {base : Heap}
/-! ### told_between -/
def stepB (sign : Str) (s : List (List Str) × List Str) (w : Str) : List (List Str) × List Str := if w = sign then (s.1 ++ [s.2], []) else (s.1, s.2 ++ [w])
def partsB (ws : List Str) (sign : Str) : List (List Str) := (ws.foldl (stepB sign) ([], [])).1 ++ [(ws.foldl (stepB sign) ([], [])).2]
def toldB (ws : List Str) (sign : Str) : List Str := (partsB ws sign).map (Txt.join " ")
theorem foldB_len (sign : Str) : ∀ (ws : List Str) (s : List (List Str) × List Str), (ws.foldl (stepB sign) s).1.length ≤ s.1.length + ws.length ∧ (ws.foldl (stepB sign) s).2.length ≤ s.2.length + ws.length
  | [], s => by simp
  | w :: ws, s => by
    have h := foldB_len sign ws (stepB sign s w)
    have h2 : (stepB sign s w).1.length ≤ s.1.length + 1 ∧ (stepB sign s w).2.length ≤ s.2.length + 1 := by
      unfold stepB; split <;> simp
    rw [List.foldl_cons, List.length_cons]; omega
def wgtB (l : List Str) : Nat := (l.map (·.length)).sum + l.length
theorem wgtB_cons (w : Str) (l : List Str) : wgtB (w :: l) = w.length + 1 + wgtB l := by unfold wgtB; rw [List.map_cons, List.sum_cons, List.length_cons]; omega
theorem wgtB_snoc (w : Str) (l : List Str) : wgtB (l ++ [w]) = wgtB l + w.length + 1 := by unfold wgtB; rw [List.map_append, List.sum_append, List.length_append]; simp; omega
theorem foldB_part (sign : Str) (n : Nat) : ∀ (ws : List Str) (s : List (List Str) × List Str), (∀ p ∈ s.1, wgtB p ≤ n) → wgtB s.2 + wgtB ws ≤ n →
    (∀ p ∈ (ws.foldl (stepB sign) s).1 ++ [(ws.foldl (stepB sign) s).2], wgtB p ≤ n)
  | [], s, h1, h2 => by
    intro p hp
    rcases List.mem_append.mp hp with h | h
    · exact h1 p h
    · rw [List.mem_singleton.mp h]; exact Nat.le_trans (Nat.le_add_right _ _) h2
  | w :: ws, s, h1, h2 => by
    rw [wgtB_cons] at h2
    refine foldB_part sign n ws (stepB sign s w) ?_ ?_
    all_goals unfold stepB; split
    · intro p hp
      rcases List.mem_append.mp hp with h | h
      · exact h1 p h
      · rw [List.mem_singleton.mp h]; omega
    · exact h1
    · show 0 + wgtB ws ≤ n; omega
    · rw [wgtB_snoc]; omega
theorem partsB_len (ws : List Str) (sign : Str) : (partsB ws sign).length ≤ ws.length + 1 := by
  unfold partsB
  have := (foldB_len sign ws ([], [])).1
  rw [List.length_append, List.length_singleton]
  simp at this; omega
theorem toldB_len (ws : List Str) (sign : Str) : (toldB ws sign).length ≤ ws.length + 1 := by unfold toldB; rw [List.length_map]; exact partsB_len ws sign
theorem lt_line {n : Nat} (h : n ≤ 2000000) : n < sizeLine := Nat.lt_of_le_of_lt h (by decide)
def cellsB : List Addr → List (List Str) → Mu
  | q :: qs, p :: ps => (q, .lst (p.map .str)) :: cellsB qs ps
  | _, _ => []
theorem cellsB_mem : ∀ {qs : List Addr} {ps : List (List Str)} {i : Nat} {q : Addr} {p : List Str}, qs[i]? = some q → ps[i]? = some p → (q, Cell.lst (p.map .str)) ∈ cellsB qs ps
  | [], _, i, q, p, h, _ => by simp at h
  | _ :: _, [], i, q, p, _, h => by simp at h
  | a :: qs, b :: ps, 0, q, p, h1, h2 => by
    simp at h1 h2; subst h1 h2; exact List.mem_cons_self
  | a :: qs, b :: ps, i + 1, q, p, h1, h2 => by
    rw [List.getElem?_cons_succ] at h1 h2
    exact List.mem_cons_of_mem _ (cellsB_mem h1 h2)
theorem cellsB_snoc : ∀ {qs : List Addr} {ps : List (List Str)} {q : Addr} {p : List Str}, qs.length = ps.length → cellsB (qs ++ [q]) (ps ++ [p]) = cellsB qs ps ++ [(q, .lst (p.map .str))]
  | [], [], _, _, _ => rfl
  | _ :: qs, _ :: ps, _, _, h => by
    show _ :: cellsB (qs ++ [_]) (ps ++ [_]) = _ :: (cellsB qs ps ++ _)
    rw [cellsB_snoc (by simpa using h)]
  | [], _ :: _, _, _, h => by simp at h
  | _ :: _, [], _, _, h => by simp at h
def spTold : SpD := fun ds μ Q _ => ∃ (ws : List Str) (sign : Str), ds = [.lst (ws.map .str), .str sign] ∧ wgtB ws ≤ 900000 ∧ Q (.lst ((toldB ws sign).map .str)) μ
section
abbrev N_told_between : List Str := ["words", "sign", "found", "word", "part"]
theorem sc_told_between : FnScope N_told_between ["words", "sign"] (defScope stold_between) := ⟨rfl, rfl, rfl, by decide +kernel, rfl, by decide +kernel, by decide +kernel⟩
theorem v_told_between_words : Nm N_told_between (defScope stold_between) 0 "words" := ⟨rfl, by decide +kernel, by decide +kernel, by decide +kernel⟩
theorem v_told_between_sign : Nm N_told_between (defScope stold_between) 1 "sign" := ⟨rfl, by decide +kernel, by decide +kernel, by decide +kernel⟩
theorem v_told_between_found : Nm N_told_between (defScope stold_between) 2 "found" := ⟨rfl, by decide +kernel, by decide +kernel, by decide +kernel⟩
theorem v_told_between_word : Nm N_told_between (defScope stold_between) 3 "word" := ⟨rfl, by decide +kernel, by decide +kernel, by decide +kernel⟩
theorem w_told_between_part : NmB N_told_between 4 "part" := ⟨rfl, by decide +kernel, by decide +kernel⟩
theorem sl_told_between_found : (defScope stold_between).names.lookup ("found" : Str) = some .local := by decide +kernel
theorem sl_told_between_word : (defScope stold_between).names.lookup ("word" : Str) = some .local := by decide +kernel
local macro_rules | `(tactic| walk_at "pd.nm") => `(tactic| first
  | ((with_reducible show ed _ (Expr.Name "words" _) _ _ _); first | refine ed_nm v_told_between_words rfl ?_ | refine ed_nmB (sc := defScope stold_between) v_told_between_words rfl ?_)
  | ((with_reducible show ed _ (Expr.Name "sign" _) _ _ _); first | refine ed_nm v_told_between_sign rfl ?_ | refine ed_nmB (sc := defScope stold_between) v_told_between_sign rfl ?_)
  | ((with_reducible show ed _ (Expr.Name "found" _) _ _ _); first | refine ed_nm v_told_between_found rfl ?_ | refine ed_nmB (sc := defScope stold_between) v_told_between_found rfl ?_)
  | ((with_reducible show ed _ (Expr.Name "word" _) _ _ _); first | refine ed_nm v_told_between_word rfl ?_ | refine ed_nmB (sc := defScope stold_between) v_told_between_word rfl ?_)
  | ((with_reducible show ed _ (Expr.Name "part" _) _ _ _); refine ed_nmC (sc := defScope stold_between) w_told_between_part rfl ?_)
  | fail)
local macro_rules | `(tactic| walk_at "pd.set") => `(tactic| first
  | ((with_reducible show sd _ (Stmt.Assign [Expr.Name "found" _] (Expr.ListComp _ _ _ _) _) _ _ _); refine sd_setLc (own := [("part", 4)]) (i := 2) rfl sc_told_between.nd rfl (by exact sl_told_between_found) (sw_true rfl (by exact sl_told_between_found) rfl (by decide +kernel)) (blkOk_by (N := N_told_between) (sc := defScope stold_between) (by decide +kernel)) ?_)
  | ((with_reducible show sd _ (Stmt.Assign [Expr.Name "word" _] (Expr.ListComp _ _ _ _) _) _ _ _); refine sd_setLc (own := [("part", 4)]) (i := 3) rfl sc_told_between.nd rfl (by exact sl_told_between_word) (sw_true rfl (by exact sl_told_between_word) rfl (by decide +kernel)) (blkOk_by (N := N_told_between) (sc := defScope stold_between) (by decide +kernel)) ?_)
  | ((with_reducible show sd _ (Stmt.Assign [Expr.Name "found" _] _ _) _ _ _); refine sd_nm v_told_between_found sc_told_between.nd ?_)
  | ((with_reducible show sd _ (Stmt.Assign [Expr.Name "word" _] _ _) _ _ _); refine sd_nm v_told_between_word sc_told_between.nd ?_)
  | fail)
local macro_rules | `(tactic| walk_at "pd.g") => `(tactic| first
  | ((with_reducible show gd _ (Expr.Name "found" _) _ _ _ _); refine gd_nm v_told_between_found sc_told_between.nd ?_)
  | ((with_reducible show gd _ (Expr.Name "word" _) _ _ _ _); refine gd_nm v_told_between_word sc_told_between.nd ?_)
  | ((with_reducible show gv _ (Expr.Name "part" _) _ _ _ _ _); refine gv_nmC (sc := defScope stold_between) w_told_between_part sc_told_between.nd (by decide) ?_)
  | fail)
local macro_rules | `(tactic| walk_at "pd.call") => `(tactic| first
  | ((with_reducible show ed _ (Expr.Call (Expr.Attribute _ "join" _) (_ :: _) _ _) _ _ _); with_reducible refine ed_bm PySem.F.plainAttrs_str PySem.F.slot_str_join PySem.F.type_str_join ?_)
  | ((with_reducible show ed _ (Expr.Call (Expr.Attribute _ "append" _) (_ :: _) _ _) _ _ _); with_reducible refine ed_bm PySem.F.plainAttrs_list PySem.F.slot_list_append PySem.F.type_list_append ?_)
  | fail)
local macro_rules | `(tactic| walk_at "pd.lc") => `(tactic| first
  | ((with_reducible show ed _ (Expr.ListComp _ [_] _ _) _ _ _); refine ed_lc (own := [("part", 4)]) [("part", 4)] rfl rfl sc_told_between.nd (blkOk_by (N := N_told_between) (sc := defScope stold_between) (by decide +kernel)) ?_)
  | fail)
local macro_rules | `(tactic| walk_at "pd.it") => `(tactic| first
  | ((with_reducible show eid _ _ _ _ _ _); refine eid_of ?_)
  | fail)
local macro_rules | `(tactic| walk_at "pd.lst") => `(tactic| refine ed_lstO ?_)
theorem ok_told_between (T : T0 w K mg) : CallD P w K mg base 1 (He.ga K "told_between") 2 [] spTold := by
  obtain ⟨fd, F⟩ := f_told_between T
  refine CallD.mk0 (ps := ["words", "sign"]) F (fun _ _ _ _ _ _ us hl => match us, hl with | [_, _], _ => rfl) (fnD_of F sc_told_between fun cdv A outer s H F0 μ ds Qd Ed hr hl h => ?_)
  obtain ⟨ws, sign, rfl, hm, q⟩ := h
  have hn : ws.length ≤ 900000 := Nat.le_trans (Nat.le_add_left _ _) hm
  show sds _ _ [some (.lst (ws.map .str)), some (.str sign), none, none, none] _ _
  refine sds_cons ?_
  walk_at "pd"
  intro q0
  walk_at "pd"
  intro p
  walk_at "pd"
  refine sd_for rfl ?_
  walk_at "pd"
  refine ⟨fun i δ' μ' => ∃ (qs : List Addr) (q1 : Addr) (x3 : Option D) (s : List (List Str) × List Str), s = (ws.take i).foldl (stepB sign) ([], []) ∧ qs.length = s.1.length ∧ δ' = [some (.lst (ws.map .str)), some (.str sign), some (.ref p), x3, none] ∧ μ'.Perm ((p, .lst (qs.map .ref ++ [.ref q1])) :: (q1, .lst (s.2.map .str)) :: (cellsB qs s.1 ++ μ)),
    ⟨[], q0, none, ([], []), rfl, rfl, rfl, .rfl⟩, fun _ _ _ _ _ => trivial, ?_, ?_⟩
  · rintro i d δ' μ' hd ⟨qs, q1, x3, ⟨s1, s2⟩, hs, hq, rfl, hp⟩
    rw [List.getElem?_map] at hd
    obtain ⟨w1, hw, rfl⟩ : ∃ w1, ws[i]? = some w1 ∧ d = .str w1 := by
      cases e : ws[i]? with
      | none => rw [e] at hd; cases hd
      | some w1 => rw [e] at hd; cases hd; exact ⟨w1, rfl, rfl⟩
    have hi : i < ws.length := (List.getElem?_eq_some_iff.mp hw).1
    have hs' : (ws.take (i + 1)).foldl (stepB sign) ([], []) = stepB sign (s1, s2) w1 := by
      rw [List.take_succ, hw, List.foldl_append, ← hs]; rfl
    have hl1 := foldB_len sign (ws.take i) ([], [])
    rw [← hs, List.length_take] at hl1
    have hq' : qs.length = s1.length := hq
    walk_at "pdS"
    refine sds_mu _ hp ?_
    walk_at "pd"
    refine ifd (fun e => ?_) (fun e => ?_)
    · walk_at "pd"
      intro q2
      walk_at "pd"
      refine mtd_append (μ1 := [(q2, _)]) (lt_line (by simp at hl1 ⊢; omega)) ?_
      walk_at "pd"
      refine ⟨qs ++ [q1], q2, _, (s1 ++ [s2], []), ?_, by simp [hq], rfl, ?_⟩
      · rw [hs']; unfold stepB; rw [if_pos e]
      · rw [cellsB_snoc hq, List.map_append]
        refine (List.Perm.swap _ _ _).trans (.cons _ (.cons _ ?_))
        rw [List.append_assoc]
        exact List.perm_middle.symm
    · walk_at "pd"
      refine ixd_own List.mem_cons_self (atI_last' _ _) ?_
      walk_at "pd"
      refine mtd_append (μ1 := [(p, _)]) (lt_line (by simp at hl1 ⊢; omega)) ?_
      walk_at "pd"
      refine ⟨qs, q1, _, (s1, s2 ++ [w1]), ?_, hq, rfl, ?_⟩
      · rw [hs']; unfold stepB; rw [if_neg e]
      · rw [List.map_append]; exact .rfl
  · rintro δ' μ' ⟨qs, q1, x3, ⟨s1, s2⟩, hs, hq, rfl, hp⟩
    rw [List.length_map, List.take_length] at hs
    refine sds_mu _ hp ?_
    refine sds_cons ?_
    refine sd_ret (ed_dropL ?_)
    walk_at "pd"
    have hP : partsB ws sign = s1 ++ [s2] := by unfold partsB; rw [← hs]
    have hpl := partsB_len ws sign
    have hpart := foldB_part sign 900000 ws ([], []) (fun _ h => (List.not_mem_nil h).elim) (by show 0 + wgtB ws ≤ _; omega)
    rw [← hs] at hpart
    rw [hP, List.length_append, List.length_singleton] at hpl
    have hq' : qs.length = s1.length := hq
    refine lcd_ix (fun μ' => μ' = ((p, Cell.lst (List.map D.ref qs ++ [D.ref q1])) :: (q1, Cell.lst (List.map D.str s2)) :: (cellsB qs s1 ++ μ))) ((toldB ws sign).map .str) ?_
    walk_at "pd"
    refine itd_own List.mem_cons_self ⟨by simp; omega, by unfold toldB; rw [hP]; simp [hq'], rfl, fun _ e => by rw [e]; exact List.mem_cons_self, ?_, ?_⟩
    · rintro j d r μ' hd hr rfl
      have hj : j < s1.length + 1 := by
        have := (List.getElem?_eq_some_iff.mp hd).1
        simp at this; omega
      obtain ⟨part, hpt⟩ : ∃ part, (s1 ++ [s2])[j]? = some part := ⟨_, List.getElem?_eq_getElem (by simp; omega)⟩
      obtain ⟨a, ha⟩ : ∃ a, (qs ++ [q1])[j]? = some a := ⟨_, List.getElem?_eq_getElem (by simp; omega)⟩
      have hd2 : ((qs ++ [q1]).map D.ref)[j]? = some d := by rw [List.map_append]; exact hd
      rw [List.getElem?_map, ha] at hd2
      cases hd2
      unfold toldB at hr
      rw [hP, List.getElem?_map, List.getElem?_map, hpt] at hr
      cases hr
      have hmem : (a, Cell.lst (part.map .str)) ∈ (p, Cell.lst (List.map D.ref qs ++ [D.ref q1])) :: (q1, Cell.lst (List.map D.str s2)) :: (cellsB qs s1 ++ μ) := by
        have h1 := cellsB_mem ha hpt
        rw [cellsB_snoc hq] at h1
        rcases List.mem_append.mp h1 with h | h
        · exact List.mem_cons_of_mem _ (List.mem_cons_of_mem _ (List.mem_append_left _ h))
        · rw [List.mem_singleton.mp h]; exact List.mem_cons_of_mem _ List.mem_cons_self
      have hb := hpart part (List.mem_of_getElem? hpt)
      unfold wgtB at hb
      walk_at "pd"
      refine ⟨rfl, ?_⟩
      walk_at "pd"
      refine mtd_joinS part (.own hmem) rfl ?_ ⟨rfl, rfl⟩
      have e : (Str.ofString " ").length = 1 := by decide
      rw [e]; omega
    · rintro μ' rfl
      exact ⟨(p, Cell.lst (List.map D.ref qs ++ [D.ref q1])) :: (q1, Cell.lst (List.map D.str s2)) :: cellsB qs s1, μ, rfl, q⟩
end
end
section
variable {P : Program} {w : World} {K : PySem.W.Frag} {mg : Str → Option Value} {base : Heap}
/-! ### the words of a row's text -/
namespace RT
open TL
/-- partsB by recursion -/
def cutS (w : Str) : List Str → List (List Str)
  | [] => [[]]
  | x :: xs => if x = w then [] :: cutS w xs else match cutS w xs with
    | c :: cs => (x :: c) :: cs
    | [] => [[x]]
theorem cutS_ne (w : Str) : ∀ xs, ∃ c cs, cutS w xs = c :: cs
  | [] => ⟨_, _, rfl⟩
  | x :: xs => by
    obtain ⟨c, cs, e⟩ := cutS_ne w xs
    unfold cutS
    split
    · exact ⟨_, _, rfl⟩
    · rw [e]; exact ⟨_, _, rfl⟩
theorem fold_cut (w : Str) : ∀ (xs : List Str) (s : List (List Str) × List Str), (xs.foldl (stepB w) s).1 ++ [(xs.foldl (stepB w) s).2] = s.1 ++ (match cutS w xs with | c :: cs => (s.2 ++ c) :: cs | [] => [])
  | [], s => by simp [cutS]
  | x :: xs, s => by
    rw [List.foldl_cons, fold_cut w xs]
    obtain ⟨c, cs, e⟩ := cutS_ne w xs
    unfold stepB
    by_cases h : x = w
    · simp [cutS, e, h]
    · simp [cutS, e, h]
theorem partsB_cut (xs : List Str) (w : Str) : partsB xs w = cutS w xs := by
  unfold partsB
  rw [fold_cut w xs ([], [])]
  obtain ⟨c, cs, e⟩ := cutS_ne w xs
  rw [e]; simp
theorem cutS_tl (w : Str) : ∀ xs : List Str, (cutS w xs).map (fun p => p.map tl) = cut (tl w) (xs.map tl)
  | [] => rfl
  | x :: xs => by
    have ih := cutS_tl w xs
    obtain ⟨c, cs, e⟩ := cutS_ne w xs
    rw [e] at ih
    rw [List.map_cons]
    unfold cutS cut
    rw [← ih, e]
    by_cases h : x = w
    · rw [if_pos h, if_pos (by rw [h])]; rfl
    · rw [if_neg h, if_neg fun z => h (ext_tl z)]; rfl
/-- what is told between words: the parts put together again -/
theorem told_of {xs us : List Str} {w : Str} {f : Str → List W} (e : xs.map tl = inter (tl w) (us.map f)) (hne : us ≠ []) (h : ∀ u ∈ us, J (f u) = tl u ∧ tl w ∉ f u) : toldB xs w = us := by
  have e1 : (cutS w xs).map (fun p => p.map tl) = us.map f := by
    rw [cutS_tl, e, cut_inter (by simpa using hne)]
    intro p hp
    obtain ⟨u, hu, rfl⟩ := List.mem_map.mp hp
    exact (h u hu).2
  unfold toldB
  rw [partsB_cut]
  have key : ∀ (ps : List (List Str)) (us : List Str), ps.map (fun p => p.map tl) = us.map f → (∀ u ∈ us, J (f u) = tl u) → ps.map (Txt.join " ") = us := by
    intro ps
    induction ps with
    | nil => intro us e _; cases us with | nil => rfl | cons => cases e
    | cons p ps ih =>
      intro us e h
      cases us with
      | nil => cases e
      | cons u us =>
        injection e with e2 e3
        rw [List.map_cons, ih us e3 fun u hu => h u (List.mem_cons_of_mem _ hu)]
        congr 1
        refine ext_tl ?_
        have e2' : p.map tl = f u := e2
        rw [TL.join_eq, TL.tl_join, e2']
        exact h u List.mem_cons_self
  exact key _ us e1 fun u hu => (h u hu).1
theorem map_cons_of {xs : List Str} {a : W} {r : List W} (e : xs.map tl = a :: r) : ∃ y ys, xs = y :: ys ∧ tl y = a ∧ ys.map tl = r := by
  cases xs with
  | nil => cases e
  | cons y ys => injection e with e1 e2; exact ⟨y, ys, rfl, e1, e2⟩
theorem map_app_of : ∀ {xs : List Str} {a b : List W}, xs.map tl = a ++ b → ∃ ys zs, xs = ys ++ zs ∧ ys.map tl = a ∧ zs.map tl = b
  | xs, [], b, e => ⟨[], xs, rfl, rfl, e⟩
  | xs, x :: a, b, e => by
    obtain ⟨y, ys, rfl, h1, h2⟩ := map_cons_of e
    obtain ⟨us, zs, rfl, h3, h4⟩ := map_app_of h2
    exact ⟨y :: us, zs, rfl, by rw [List.map_cons, h1, h3], h4⟩
/-- the words of a row's text -/
structure RowWords (k : Str) (ts ws : List Str) (a : Bool) (If Do : List Str) : Prop where
  e : Txt.split (rowText k ts ws a) " " = k :: (If ++ Do ++ [yesNo a])
  i : (ts = [] ∧ If = []) ∨ (ts ≠ [] ∧ ∃ r : List Str, If = Str.ofString "if" :: r ∧ toldB r "and" = ts)
  d : (ws = [] ∧ Do = []) ∨ (ws ≠ [] ∧ ∃ r : List Str, Do = Str.ofString "do" :: r ∧ toldB r "then" = ws)
  nd : ∀ x ∈ If, x ≠ Str.ofString "do"
theorem words_of {k : Str} {ts ws : List Str} (a : Bool) (F : Fin' k ts ws) : ∃ If Do, RowWords k ts ws a If Do := by
  have h1 : (Txt.split (rowText k ts ws a) " ").map tl = tl k :: (I ts ++ D' ws ++ [tl (yesNo a)]) := by
    have e0 : tl (Str.ofString " ") = [32] := rfl
    rw [split_spl _ _ (by rw [e0]; simp) (kind_ok (by decide +kernel)), e0, text_toks a F, ← groups_flat]
    exact spl_join (s := 32) (S := []) (by rw [groups_flat]; simp) (toks_free a F)
  obtain ⟨y, ys, e1, e2, e3⟩ := map_cons_of h1
  obtain ⟨us, zs, rfl, e4, e5⟩ := map_app_of e3
  obtain ⟨If, Do, rfl, e6, e7⟩ := map_app_of e4
  obtain ⟨z, zs', rfl, e8, e9⟩ := map_cons_of e5
  obtain rfl : zs' = [] := List.map_eq_nil_iff.mp e9
  obtain rfl := ext_tl e2
  obtain rfl := ext_tl e8
  refine ⟨If, Do, e1, ?_, ?_, ?_⟩
  · by_cases q : ts = []
    · left
      unfold I ifT at e6
      rw [if_pos q] at e6
      exact ⟨q, List.map_eq_nil_iff.mp e6⟩
    · right
      unfold I ifT at e6
      rw [if_neg q] at e6
      have e6' : If.map tl = wIf :: inter wAnd (ts.map tk) := by simpa using e6
      obtain ⟨x, r, rfl, g1, g2⟩ := map_cons_of e6'
      obtain rfl := ext_tl g1
      exact ⟨q, r, rfl, told_of g2 q fun t ht => ⟨(tests_fin t (F.t t ht)).1, (tests_fin t (F.t t ht)).2.2.1⟩⟩
  · by_cases q : ws = []
    · left
      unfold D' doT at e7
      rw [if_pos q] at e7
      exact ⟨q, List.map_eq_nil_iff.mp e7⟩
    · right
      unfold D' doT at e7
      rw [if_neg q] at e7
      have e7' : Do.map tl = wDo :: inter wThen (ws.map fun w => [tl w]) := by simpa using e7
      obtain ⟨x, r, rfl, g1, g2⟩ := map_cons_of e7'
      obtain rfl := ext_tl g1
      exact ⟨q, r, rfl, told_of g2 q fun t ht => ⟨rfl, (deeds_fin t (F.d t ht)).1⟩⟩
  · rintro x hx rfl
    have : tl (Str.ofString "do") ∈ If.map tl := List.mem_map.mpr ⟨_, hx, rfl⟩
    rw [e6] at this
    exact (I_mem F.t _ this).1 rfl
end RT
end
section
variable {P : Program} {w : World} {K : PySem.W.Frag} {mg : Str → Option Value} {base : Heap}
/-! ### a row read -/
theorem isTestB_of {k t : Str} (hk : k ∈ kindsL) (h : TestOk k t) : t.length ≤ 20 ∧ isTestB k t = true := by
  have key : ∀ k ∈ kindsL, ∀ t ∈ testsOf k, t.length ≤ 20 ∧ isTestB k t = true ∧ ("not " ++ t : Str).length ≤ 20 ∧ isTestB k ("not " ++ t) = true := by decide +kernel
  rcases h with h | ⟨t0, h, rfl⟩
  · obtain ⟨a, b, -, -⟩ := key k hk t h; exact ⟨a, b⟩
  · obtain ⟨-, -, a, b⟩ := key k hk t0 h; exact ⟨a, b⟩
theorem isDeedB_of {k t : Str} (hk : k ∈ kindsL) (h : t ∈ deedsOf k) : t.length ≤ 20 ∧ isDeedB k t = true := by
  have key : ∀ k ∈ kindsL, ∀ t ∈ deedsOf k, t.length ≤ 20 ∧ isDeedB k t = true := by decide +kernel
  exact key k hk t h
theorem kind_len {k : Str} (hk : k ∈ kindsL) : k.length ≤ 20 := by
  have key : ∀ k ∈ kindsL, k.length ≤ 20 := by decide +kernel
  exact key k hk
theorem tests_all {k t : Str} (hk : k ∈ kindsL) (h : TestOk k t) : t ∈ RT.allTests := by
  have key : ∀ k ∈ kindsL, ∀ t ∈ testsOf k, t ∈ RT.allTests ∧ ("not " ++ t : Str) ∈ RT.allTests := by decide +kernel
  rcases h with h | ⟨t0, h, rfl⟩
  · exact (key k hk t h).1
  · exact (key k hk t0 h).2
theorem deeds_all {k t : Str} (hk : k ∈ kindsL) (h : t ∈ deedsOf k) : t ∈ RT.allDeeds := by
  have key : ∀ k ∈ kindsL, ∀ t ∈ deedsOf k, t ∈ RT.allDeeds := by decide +kernel
  exact key k hk t h
structure RowG (k : Str) (ts ws : List Str) (a : Bool) : Prop where
  ok : RowOk k ts ws a
  tn : ts.length ≤ 100
  wn : ws.length ≤ 100
section
variable {k : Str} {ts ws : List Str} {a : Bool}
theorem RowG.txt (G : RowG k ts ws a) : RowTxt k ts ws where
  kl := kind_len G.ok.kd
  tl := fun t ht => (isTestB_of G.ok.kd (G.ok.te t ht)).1
  wl := fun t ht => (isDeedB_of G.ok.kd (G.ok.de t ht)).1
  tn := by have := G.tn; omega
  wn := by have := G.wn; omega
theorem RowG.fin (G : RowG k ts ws a) : RT.Fin' k ts ws where
  k := G.ok.kd
  t := fun t ht => tests_all G.ok.kd (G.ok.te t ht)
  d := fun t ht => deeds_all G.ok.kd (G.ok.de t ht)
theorem RowG.askT (G : RowG k ts ws a) : ∀ y ∈ ts.map D.str, AskD y ∧ isTestD k y = true := fun y hy => by
  obtain ⟨t, ht, rfl⟩ := List.mem_map.mp hy
  obtain ⟨h1, h2⟩ := isTestB_of G.ok.kd (G.ok.te t ht)
  exact ⟨⟨rfl, fun z e => by cases e; omega⟩, h2⟩
theorem RowG.askD (G : RowG k ts ws a) : ∀ y ∈ ws.map D.str, AskD y ∧ isDeedD k y = true := fun y hy => by
  obtain ⟨t, ht, rfl⟩ := List.mem_map.mp hy
  obtain ⟨h1, h2⟩ := isDeedB_of G.ok.kd (G.ok.de t ht)
  exact ⟨⟨rfl, fun z e => by cases e; omega⟩, h2⟩
theorem RowG.good (G : RowG k ts ws a) {xt xd : D} (ht : seqIt xt = some (ts.map .str)) (hd : seqIt xd = some (ws.map .str)) : rowBad (.str k) xt xd (.bl a) = none := by
  have b0 : badK (.str k) = false := by show (!decide (k ∈ kindsL)) = false; rw [decide_eq_true G.ok.kd]; rfl
  have b1 : badT k xt = false := by unfold badT; rw [ht]; show (!(ts.map D.str).all (isTestD k)) = false; rw [List.all_eq_true.mpr fun y hy => (G.askT y hy).2]; rfl
  have b2 : badD k xd = false := by unfold badD; rw [hd]; show (!(ws.map D.str).all (isDeedD k)) = false; rw [List.all_eq_true.mpr fun y hy => (G.askD y hy).2]; rfl
  have b3 : badA (.bl a) xd = false := by
    unfold badA; rw [hd]
    show (!a && decide (0 < (ws.map D.str).length)) = false
    cases a with
    | true => rfl
    | false => rw [G.ok.an rfl]; rfl
  unfold rowBad
  rw [b0, if_neg (by decide)]
  show (if badT k xt = true then _ else if badD k xd = true then _ else if badA (.bl a) xd = true then _ else _) = _
  rw [b1, b2, b3]; rfl
end
end
section
variable {P : Program} {w : World} {K : PySem.W.Frag} {mg : Str → Option Value} {base : Heap}
/-! ### stores -/
structure Rw where
  k : Str
  ts : List Str
  ws : List Str
  a : Bool
deriving DecidableEq
def Rw.d (C : Addr) (r : Rw) : D := rowD C r.k r.ts r.ws r.a
def Rw.txt (r : Rw) : Str := rowText r.k r.ts r.ws r.a
def Rw.ok (r : Rw) : Prop := RowG r.k r.ts r.ws r.a
def rwDs (C : Addr) (rs : List Rw) : List D := rs.map (Rw.d C)
def deedsD : Nat → List Rw → List D
  | _, [] => []
  | i, r :: rs => r.ws.map (fun w => D.tup [.int (i : Int), .str w]) ++ deedsD (i + 1) rs
theorem deedsD_snoc : ∀ (i : Nat) (rs : List Rw) (r : Rw), deedsD i (rs ++ [r]) = deedsD i rs ++ r.ws.map (fun w => D.tup [.int ((i + rs.length : Nat) : Int), .str w])
  | i, [], r => by simp [deedsD]
  | i, x :: rs, r => by
    rw [List.cons_append, deedsD, deedsD, deedsD_snoc (i + 1) rs r, List.append_assoc, List.length_cons]
    rw [show i + 1 + rs.length = i + (rs.length + 1) from by omega]
theorem deedsD_len {m : Nat} : ∀ (i : Nat) (rs : List Rw), (∀ r ∈ rs, r.ws.length ≤ m) → (deedsD i rs).length ≤ rs.length * m
  | i, [], _ => by simp [deedsD]
  | i, r :: rs, h => by
    have h1 := deedsD_len (i + 1) rs fun x hx => h x (List.mem_cons_of_mem _ hx)
    have h2 := h r List.mem_cons_self
    rw [deedsD, List.length_append, List.length_map, List.length_cons, Nat.succ_mul]; omega
def storeD (K : PySem.W.Frag) (rs : List Rw) : D := .obj (He.ga K "Store") ["rows", "deeds"] [.tup (rwDs (He.ga K "Row") rs), .tup (deedsD 0 rs)]
/-- whether a thing is a row, whatever cells there are -/
def RowB (K : PySem.W.Frag) (d : D) (b : Bool) : Prop := ∃ t, (∀ μ, TyQ K μ d t) ∧ PySem.W.kitOne K t (.ref (He.ga K "Row")) = some b
/-- what is handed in as rows -/
inductive StAsk (K : PySem.W.Frag) (μ : Mu) : D → Option (List Rw) → Prop where
  | good {x} (rs : List Rw) (hs : SeqD μ x (rwDs (He.ga K "Row") rs)) (hn : rs.length ≤ 100) (ho : ∀ r ∈ rs, r.ws.length ≤ 100) : StAsk K μ x (some rs)
  | bad {x} (xs : List D) (bs : List Bool) (hs : SeqD μ x xs) (hn : xs.length ≤ 1000) (hl : bs.length = xs.length) (hb : ∀ (i : Nat) (d : D) (b : Bool), xs[i]? = some d → bs[i]? = some b → RowB K d b) (hf : bs.all id = false) : StAsk K μ x none
  | noSeq {x} (h : (tyN x).isSome = true) (h2 : isSeqD x = false) : StAsk K μ x none
  | own {x t} (h : ∀ μ, TyQ K μ x t) (h2 : PySem.W.kitAny K t [.type "list", .type "tuple"] = some false) : StAsk K μ x none
def spStoreI (K : PySem.W.Frag) : SpD := fun ds μ Q E => ∃ p dx μr x o, ds = [.ref p, x] ∧ μ = (p, .ins (He.ga K "Store") dx [] []) :: μr ∧ StAsk K μr x o ∧
  (o = none → E (.ref (He.ga K "InvalidStore")) ["word"] [.str "rows"] μ) ∧
  (∀ rs, o = some rs → Q .non ((p, .ins (He.ga K "Store") dx ["rows", "deeds"] [.tup (rwDs (He.ga K "Row") rs), .tup (deedsD 0 rs)]) :: μr))
theorem rwDs_get (C : Addr) (rs : List Rw) (i : Nat) : (rwDs C rs)[i]? = (rs[i]?).map (Rw.d C) := by unfold rwDs; rw [List.getElem?_map]
theorem rwDs_len (C : Addr) (rs : List Rw) : (rwDs C rs).length = rs.length := by unfold rwDs; rw [List.length_map]
theorem all_true {n : Nat} : (List.replicate n true).all id = true := by induction n with | zero => rfl | succ n ih => rw [List.replicate_succ, List.all_cons, ih]; rfl
section
abbrev N_Store_init : List Str := ["self", "rows", "row", "at", "deed"]
theorem sc_Store_init : FnScope N_Store_init ["self", "rows"] (defScope sStore_init) := ⟨rfl, rfl, rfl, by decide +kernel, rfl, by decide +kernel, by decide +kernel⟩
theorem v_Store_init_self : Nm N_Store_init (defScope sStore_init) 0 "self" := ⟨rfl, by decide +kernel, by decide +kernel, by decide +kernel⟩
theorem v_Store_init_rows : Nm N_Store_init (defScope sStore_init) 1 "rows" := ⟨rfl, by decide +kernel, by decide +kernel, by decide +kernel⟩
theorem w_Store_init_row : NmB N_Store_init 2 "row" := ⟨rfl, by decide +kernel, by decide +kernel⟩
theorem w_Store_init_at : NmB N_Store_init 3 "at" := ⟨rfl, by decide +kernel, by decide +kernel⟩
theorem w_Store_init_deed : NmB N_Store_init 4 "deed" := ⟨rfl, by decide +kernel, by decide +kernel⟩
theorem gl_Store_init_InvalidStore : (defScope sStore_init).names.lookup ("InvalidStore" : Str) = some .globalImplicit := by decide +kernel
theorem gl_Store_init_all : (defScope sStore_init).names.lookup ("all" : Str) = some .globalImplicit := by decide +kernel
theorem gl_Store_init_enumerate : (defScope sStore_init).names.lookup ("enumerate" : Str) = some .globalImplicit := by decide +kernel
theorem gl_Store_init_is_sequence : (defScope sStore_init).names.lookup ("is_sequence" : Str) = some .globalImplicit := by decide +kernel
theorem gl_Store_init_tuple : (defScope sStore_init).names.lookup ("tuple" : Str) = some .globalImplicit := by decide +kernel
local macro_rules | `(tactic| walk_at "pd.nm") => `(tactic| first
  | ((with_reducible show ed _ (Expr.Name "self" _) _ _ _); first | refine ed_nm v_Store_init_self rfl ?_ | refine ed_nmB (sc := defScope sStore_init) v_Store_init_self rfl ?_)
  | ((with_reducible show ed _ (Expr.Name "rows" _) _ _ _); first | refine ed_nm v_Store_init_rows rfl ?_ | refine ed_nmB (sc := defScope sStore_init) v_Store_init_rows rfl ?_)
  | ((with_reducible show ed _ (Expr.Name "row" _) _ _ _); refine ed_nmC (sc := defScope sStore_init) w_Store_init_row rfl ?_)
  | ((with_reducible show ed _ (Expr.Name "at" _) _ _ _); refine ed_nmC (sc := defScope sStore_init) w_Store_init_at rfl ?_)
  | ((with_reducible show ed _ (Expr.Name "deed" _) _ _ _); refine ed_nmC (sc := defScope sStore_init) w_Store_init_deed rfl ?_)
  | ((with_reducible show ed _ (Expr.Name "InvalidStore" _) _ _ _); refine ed_gref (g_InvalidStore (by assumption)) ?_ (hg := by first | exact gl_of gl_Store_init_InvalidStore))
  | ((with_reducible show ed _ (Expr.Name "Row" _) _ _ _); refine ed_gref (g_Row (by assumption)) ?_ (hg := by first | exact glB_of (sc := defScope sStore_init)))
  | ((with_reducible show ed _ (Expr.Name "enumerate" _) _ _ _); refine ed_ty (n := "enumerate") (b_enumerate (by assumption)) bb_enumerate ?_ (hg := by first | exact gl_of gl_Store_init_enumerate | exact glB_of (sc := defScope sStore_init)))
  | ((with_reducible show ed _ (Expr.Name "tuple" _) _ _ _); refine ed_ty (n := "tuple") (b_tuple (by assumption)) bb_tuple ?_ (hg := by first | exact gl_of gl_Store_init_tuple))
  | fail)
local macro_rules | `(tactic| walk_at "pd.g") => `(tactic| first
  | ((with_reducible show gv _ (Expr.Name "row" _) _ _ _ _ _); refine gv_nmC (sc := defScope sStore_init) w_Store_init_row sc_Store_init.nd (by decide) ?_)
  | ((with_reducible show gv _ (Expr.Name "at" _) _ _ _ _ _); refine gv_nmC (sc := defScope sStore_init) w_Store_init_at sc_Store_init.nd (by decide) ?_)
  | ((with_reducible show gv _ (Expr.Name "deed" _) _ _ _ _ _); refine gv_nmC (sc := defScope sStore_init) w_Store_init_deed sc_Store_init.nd (by decide) ?_)
  | fail)
local macro_rules | `(tactic| walk_at "pd.call") => `(tactic| first
  | ((with_reducible show ed _ (Expr.Call (Expr.Name "tuple" _) (_ :: _) _ _) _ _ _); refine ed_callTy (T := "tuple") (b_tuple (by assumption)) bb_tuple ?_ (hg := by first | exact gl_of gl_Store_init_tuple))
  | ((with_reducible show ed _ (Expr.Call (Expr.Name "is_sequence" _) (_ :: _) _ _) _ _ _); refine ed_callC ((ok_is_sequence (by assumption)).at_ _) (by assumption) (by decide) (g_is_sequence (by assumption)) ?_ (hg := by first | exact gl_of gl_Store_init_is_sequence))
  | ((with_reducible show ed _ (Expr.Call (Expr.Name "all" _) (_ :: _) _ _) _ _ _); refine ed_callB (id := "all") (b_all (by assumption)) bb_all ?_ (hg := by first | exact gl_of gl_Store_init_all))
  | ((with_reducible show ed _ (Expr.Call (Expr.Name "isinstance" _) (_ :: _) _ _) _ _ _); refine ed_callB (id := "isinstance") (b_isinstance (by assumption)) bb_isinstance ?_ (hg := by first | exact glB_of (sc := defScope sStore_init)))
  | fail)
local macro_rules | `(tactic| walk_at "pd.lc") => `(tactic| first
  | ((with_reducible show ed _ (Expr.ListComp _ [_, _] _ _) _ _ _); refine ed_lc2 (own := [("at", 3), ("row", 2), ("deed", 4)]) (vs1 := [4]) [("at", 3), ("row", 2), ("deed", 4)] rfl rfl sc_Store_init.nd (blkOk_by (N := N_Store_init) (sc := defScope sStore_init) (by decide +kernel)) (by decide) ?_)
  | ((with_reducible show ed _ (Expr.ListComp _ [_] _ _) _ _ _); refine ed_lc (own := [("at", 3), ("row", 2), ("deed", 4)]) [("at", 3), ("row", 2), ("deed", 4)] rfl rfl sc_Store_init.nd (blkOk_by (N := N_Store_init) (sc := defScope sStore_init) (by decide +kernel)) ?_)
  | ((with_reducible show ed _ (Expr.ListComp _ [_] _ _) _ _ _); refine ed_lc (own := [("row", 2)]) [("row", 2)] rfl rfl sc_Store_init.nd (blkOk_by (N := N_Store_init) (sc := defScope sStore_init) (by decide +kernel)) ?_)
  | fail)
local macro_rules | `(tactic| walk_at "pd.it") => `(tactic| first
  | ((with_reducible show eid _ _ (Expr.Call (Expr.Name "enumerate" _) [_] _ _) _ _ _); refine eid_enumS (b_enumerate (by assumption)) ?_ (hg := by first | exact gl_of gl_Store_init_enumerate | exact glB_of (sc := defScope sStore_init)))
  | ((with_reducible show eid _ _ _ _ _ _); refine eid_of ?_)
  | fail)
local macro_rules | `(tactic| walk_at "pd.sfld") => `(tactic| first
  | ((with_reducible show sd _ (Stmt.Assign [Expr.Attribute _ "rows" _] _ _) _ _ _); refine sd_fld (c_Store (by assumption)) (n_Store_rows (by assumption)) ?_)
  | ((with_reducible show sd _ (Stmt.Assign [Expr.Attribute _ "deeds" _] _ _) _ _ _); refine sd_fld (c_Store (by assumption)) (n_Store_deeds (by assumption)) ?_)
  | fail)
local macro_rules | `(tactic| walk_at "pd.fld") => `(tactic| first
  | ((with_reducible show ed _ (Expr.Attribute _ "deeds" _) _ _ _); first | (refine ed_fld (c_Row (by assumption)) (n_Row_deeds (by assumption)) ?_; walk_at "pdF"; walk_at "pd.fldX") | (refine ed_fld (c_Store (by assumption)) (n_Store_deeds (by assumption)) ?_; walk_at "pdF"; walk_at "pd.fldX"))
  | fail)
local macro_rules | `(tactic| walk_at "pd.raise") => `(tactic| first
  | ((with_reducible show sd _ (Stmt.Raise (some (Expr.Call (Expr.Name "InvalidStore" _) _ _ _)) none _) _ _ _); refine sd_raiseOwn rfl (x_InvalidStore (by assumption)) (by assumption) (by decide) (g_InvalidStore (by assumption)) ?_ (hg := by first | exact gl_of gl_Store_init_InvalidStore))
  | fail)
theorem fnd_Store_init (T : T0 w K mg) {fd : FuncData} (F : FunD K "__init__" "Store.__init__" (defArgs sStore_init) (defBody sStore_init) (defScope sStore_init) (dStore_init.dvs K) (dStore_init.kws K) (He.fAd K dStore_init.at_) fd) {b : Md} : FnD b P w K mg base 3 (He.fAd K dStore_init.at_) fd ["self", "rows"] (spStoreI K) := by
  refine fnD_of F sc_Store_init fun cdv A outer s H F0 μ ds Qd Ed hr hl h => ?_
  obtain ⟨p, dx, μr, x, o, rfl, rfl, hx, hE, hQ⟩ := h
  show sds _ _ [some (.ref p), some x, none, none, none] _ _
  refine sds_cons ?_
  cases hx with
  | noSeq h1 h2 =>
    walk_at "pd"
    refine Or.inl ⟨x, rfl, h1, ?_⟩
    rw [h2]
    walk_at "pd"
    exact hE rfl
  | own h1 h2 =>
    walk_at "pd"
    refine Or.inr (Or.inr ⟨x, _, rfl, h1 _, h2, ?_⟩)
    walk_at "pd"
    exact hE rfl
  | bad xs bs hs hn hl hb hf =>
    have hs' := hs.cons (p, .ins (He.ga K "Store") dx [] [])
    walk_at "pd"
    refine Or.inr (Or.inl ⟨x, xs, rfl, hs', ?_⟩)
    walk_at "pd"
    refine lcd_ix (fun μ' => μ' = (p, .ins (He.ga K "Store") dx [] []) :: μr) (bs.map .bl) ?_
    walk_at "pd"
    refine itd_seq hs' ?_
    refine ⟨by omega, by rw [List.length_map, hl], rfl, fun _ e => by rw [e]; exact hs', ?_, ?_⟩
    · rintro i d r μ' hd hr2 rfl
      rw [List.getElem?_map] at hr2
      cases hb2 : bs[i]? with
      | none => rw [hb2] at hr2; cases hr2
      | some b =>
        rw [hb2] at hr2
        cases hr2
        obtain ⟨t, h1, h2⟩ := hb i d b hd hb2
        walk_at "pd"
        refine ⟨rfl, ?_⟩
        walk_at "pd"
        refine cld_isi (h1 _) rfl h2 ?_
        exact ⟨rfl, rfl⟩
    · rintro μ' rfl
      walk_at "pd"
      rw [hf]
      walk_at "pd"
      exact hE rfl
  | good rs hs hn ho =>
    have hs' := hs.cons (p, .ins (He.ga K "Store") dx [] [])
    walk_at "pd"
    refine Or.inr (Or.inl ⟨x, _, rfl, hs', ?_⟩)
    walk_at "pd"
    refine lcd_ix (fun μ' => μ' = (p, .ins (He.ga K "Store") dx [] []) :: μr) ((List.replicate rs.length true).map .bl) ?_
    walk_at "pd"
    refine itd_seq hs' ?_
    refine ⟨by rw [rwDs_len]; omega, by rw [List.length_map, List.length_replicate, rwDs_len], rfl, fun _ e => by rw [e]; exact hs', ?_, ?_⟩
    · rintro i d r μ' hd hr2 rfl
      rw [rwDs_get] at hd
      cases hi : rs[i]? with
      | none => rw [hi] at hd; cases hd
      | some rw0 =>
        rw [hi] at hd
        cases hd
        have hr3 : r = .bl true := by
          rw [List.getElem?_map, List.getElem?_replicate, if_pos (List.getElem?_eq_some_iff.mp hi).1] at hr2
          cases hr2; rfl
        subst hr3
        walk_at "pd"
        refine ⟨rfl, ?_⟩
        walk_at "pd"
        unfold Rw.d rowD
        refine cld_isi (.obj (ct_Row T) _ _) rfl kit_same ?_
        exact ⟨rfl, rfl⟩
    · rintro μ' rfl
      walk_at "pd"
      rw [all_true]
      walk_at "pd"
      refine cld_tuple_seq hs' ?_
      walk_at "pd"
      have hs2 := hs.cons (p, .ins (He.ga K "Store") dx ["rows"] [.tup (rwDs (He.ga K "Row") rs)])
      show lcd2 _ _ _ _ _ _ _ _ _ _ _ _ ((p, .ins (He.ga K "Store") dx ["rows"] [.tup (rwDs (He.ga K "Row") rs)]) :: μr) _
      show eid _ _ _ _ _ _
      walk_at "pd"
      refine ⟨fun i acc μ' => acc = deedsD 0 (rs.take i) ∧ μ' = (p, .ins (He.ga K "Store") dx ["rows"] [.tup (rwDs (He.ga K "Row") rs)]) :: μr, ⟨rfl, rfl⟩, fun _ _ _ _ e => by rw [e.2]; exact hs2, ?_, ?_⟩
      · rintro i d acc μ' hd ⟨rfl, rfl⟩
        obtain ⟨y, hy, rfl⟩ := enumD_get hd
        rw [rwDs_get] at hy
        cases hi : rs[i]? with
        | none => rw [hi] at hy; cases hy
        | some r =>
          rw [hi] at hy
          cases hy
          have hil := (List.getElem?_eq_some_iff.mp hi).1
          have hin : (rs.take i).length = i := by rw [List.length_take]; omega
          have hlen := deedsD_len (m := 100) 0 (rs.take i) fun z hz => ho z (List.mem_of_mem_take hz)
          have hlr := ho r (List.mem_of_getElem? hi)
          have hmul : (rs.take i).length * 100 ≤ 10000 := by omega
          have hsn : deedsD 0 (rs.take (i + 1)) = deedsD 0 (rs.take i) ++ r.ws.map (fun w => D.tup [.int ((i : Nat) : Int), .str w]) := by
            rw [List.take_succ, hi]
            show deedsD 0 (rs.take i ++ [r]) = _
            rw [deedsD_snoc, hin, Nat.zero_add]
          walk_at "pd"
          unfold lcd1
          unfold Rw.d rowD
          walk_at "pd"
          refine ⟨fun j acc' μ'' => acc' = deedsD 0 (rs.take i) ++ (r.ws.take j).map (fun w => D.tup [.int ((i : Nat) : Int), .str w]) ∧ μ'' = (p, .ins (He.ga K "Store") dx ["rows"] [.tup (rwDs (He.ga K "Row") rs)]) :: μr, ⟨by rw [List.take_zero, List.map_nil, List.append_nil], rfl⟩, ?_, ?_, ?_⟩
          · rintro j acc' μ'' hj ⟨rfl, rfl⟩
            refine ⟨trivial, ?_⟩
            rw [List.length_append, List.length_map, List.length_take]; omega
          · rintro j d1 acc' μ'' hd1 ⟨rfl, rfl⟩
            rw [List.getElem?_map] at hd1
            cases hr2 : r.ws[j]? with
            | none => rw [hr2] at hd1; cases hd1
            | some w0 =>
              rw [hr2] at hd1
              cases hd1
              walk_at "pd"
              refine ⟨?_, rfl⟩
              rw [List.take_succ, hr2, List.map_append, List.append_assoc]; rfl
          · rintro acc' μ'' ⟨rfl, rfl⟩
            refine ⟨?_, rfl⟩
            rw [hsn, List.length_map, List.take_length]
      · rintro acc μ' ⟨rfl, rfl⟩
        rw [enumD_len, rwDs_len, List.take_length]
        walk_at "pd"
        exact hQ _ rfl
end
end
section
variable {P : Program} {w : World} {K : PySem.W.Frag} {mg : Str → Option Value} {base : Heap}
/-! ### the class Store -/
def spStoreC (K : PySem.W.Frag) : SpD := fun ds μ Q E => ∃ x o, ds = [x] ∧ StAsk K μ x o ∧
  (o = none → ∀ p dx, E (.ref (He.ga K "InvalidStore")) ["word"] [.str "rows"] ((p, .ins (He.ga K "Store") dx [] []) :: μ)) ∧ (∀ rs, o = some rs → Q (storeD K rs) μ)
theorem storeI_C {K : PySem.W.Frag} (ds : List D) (μ : Mu) (Q : D → Mu → Prop) (E : Value → List Str → List D → Mu → Prop) (h : spStoreC K ds μ Q E) (p dx : Addr) : spStoreI K (.ref p :: ds) ((p, .ins (He.ga K "Store") dx [] []) :: μ) (Frz Q p (He.ga K "Store") dx) E := by
  obtain ⟨x, o, rfl, h1, hE, hQ⟩ := h
  exact ⟨p, dx, μ, x, o, rfl, rfl, h1, fun h => hE h p dx, fun rs h => ⟨rfl, _, _, [], μ, rfl, hQ rs h⟩⟩
section
theorem cd_Store_init (T : T0 w K mg) (n j : Nat) (hn : n + (1 - j) = 2) (dds : List D) (hdd : DfD K dds ((dStore_init.dvs K).drop j))
    (h : ∀ (T : Addr) (kV doc pm : Value) (an : Option Addr) (cdv ct : Value) (us its : List Value), us.length = n → its.length = 1 →
      ∃ k, bindArgs (PySem.W.fnOf "__init__" "Store.__init__" (defArgs sStore_init) (defBody sStore_init) (defScope sStore_init) (.ref T) kV doc pm an cdv ct) ⟨us, []⟩ = seqItems? (.ref T) >>= k ∧ k (some its.toArray) = pure ((["self", "rows"] : List Str).zip (us ++ its.drop j))) :
    CallD P w K mg base 3 (He.ma K (He.ga K "Store") "__init__") 2 dds (spStoreI K) := by
  obtain ⟨fd, F⟩ := f_Store_init T
  exact CallD.mkD F (fnd_Store_init T F) n j (by intro h; cases h) hn dds hdd h
theorem mk_Store_1 (T : T0 w K mg) : MakeD P w K mg base 3 (He.ga K "Store") 1 [] (spStoreC K) :=
  ⟨_, _, k_Store T, cd_Store_init T 2 1 rfl [] DfD.nil (fun _ _ _ _ _ _ _ us its h1 h2 => match us, its, h1, h2 with | [_, _], [_], _, _ => ⟨_, rfl, rfl⟩), storeI_C⟩
theorem mk_Store_0 (T : T0 w K mg) : MakeD P w K mg base 3 (He.ga K "Store") 1 [.tup []] (spStoreC K) :=
  ⟨_, _, k_Store T, cd_Store_init T 1 0 rfl [.tup []] (fun F => Dps.cons (dpt (tupAB_ok (t_Store_init_0 T) F) Dps.nil) Dps.nil) (fun _ _ _ _ _ _ _ us its h1 h2 => match us, its, h1, h2 with | [_], [_], _, _ => ⟨_, rfl, rfl⟩), storeI_C⟩
end
def spNeed (K : PySem.W.Frag) : SpD := fun ds μ Q E => ∃ rs, ∃ i : Int, ds = [storeD K rs, .int i] ∧ (0 ≤ i ∧ i < rs.length → Q .non μ) ∧ (¬ (0 ≤ i ∧ i < rs.length) → E (.ref (He.ga K "NoRow")) ["at"] [.int i] μ)
section
abbrev N_Store_need : List Str := ["self", "at"]
theorem sc_Store_need : FnScope N_Store_need ["self", "at"] (defScope sStore_need) := ⟨rfl, rfl, rfl, by decide +kernel, rfl, by decide +kernel, by decide +kernel⟩
theorem v_Store_need_self : Nm N_Store_need (defScope sStore_need) 0 "self" := ⟨rfl, by decide +kernel, by decide +kernel, by decide +kernel⟩
theorem v_Store_need_at : Nm N_Store_need (defScope sStore_need) 1 "at" := ⟨rfl, by decide +kernel, by decide +kernel, by decide +kernel⟩
theorem gl_Store_need_NoRow : (defScope sStore_need).names.lookup ("NoRow" : Str) = some .globalImplicit := by decide +kernel
theorem gl_Store_need_len : (defScope sStore_need).names.lookup ("len" : Str) = some .globalImplicit := by decide +kernel
local macro_rules | `(tactic| walk_at "pd.nm") => `(tactic| first
  | ((with_reducible show ed _ (Expr.Name "self" _) _ _ _); first | refine ed_nm v_Store_need_self rfl ?_ | refine ed_nmB (sc := defScope sStore_need) v_Store_need_self rfl ?_)
  | ((with_reducible show ed _ (Expr.Name "at" _) _ _ _); first | refine ed_nm v_Store_need_at rfl ?_ | refine ed_nmB (sc := defScope sStore_need) v_Store_need_at rfl ?_)
  | ((with_reducible show ed _ (Expr.Name "NoRow" _) _ _ _); refine ed_gref (g_NoRow (by assumption)) ?_ (hg := by first | exact gl_of gl_Store_need_NoRow))
  | fail)
local macro_rules | `(tactic| walk_at "pd.call") => `(tactic| first
  | ((with_reducible show ed _ (Expr.Call (Expr.Name "len" _) (_ :: _) _ _) _ _ _); refine ed_callB (id := "len") (b_len (by assumption)) bb_len ?_ (hg := by first | exact gl_of gl_Store_need_len))
  | fail)
local macro_rules | `(tactic| walk_at "pd.it") => `(tactic| first
  | ((with_reducible show eid _ _ _ _ _ _); refine eid_of ?_)
  | fail)
local macro_rules | `(tactic| walk_at "pd.fld") => `(tactic| first
  | ((with_reducible show ed _ (Expr.Attribute _ "rows" _) _ _ _); first | (refine ed_fld (c_Course (by assumption)) (n_Course_rows (by assumption)) ?_; walk_at "pdF"; walk_at "pd.fldX") | (refine ed_fld (c_Store (by assumption)) (n_Store_rows (by assumption)) ?_; walk_at "pdF"; walk_at "pd.fldX"))
  | fail)
local macro_rules | `(tactic| walk_at "pd.raise") => `(tactic| first
  | ((with_reducible show sd _ (Stmt.Raise (some (Expr.Call (Expr.Name "NoRow" _) _ _ _)) none _) _ _ _); refine sd_raiseOwn rfl (x_NoRow (by assumption)) (by assumption) (by decide) (g_NoRow (by assumption)) ?_ (hg := by first | exact gl_of gl_Store_need_NoRow))
  | fail)
theorem ok_Store_need (T : T0 w K mg) : CallD P w K mg base 3 (He.ma K (He.ga K "Store") "need") 2 [] (spNeed K) := by
  obtain ⟨fd, F⟩ := f_Store_need T
  refine CallD.mk0 (ps := ["self", "at"]) F (fun _ _ _ _ _ _ us hl => match us, hl with | [_, _], _ => rfl) (fnD_of F sc_Store_need fun cdv A outer s H F0 μ ds Qd Ed hr hl h => ?_)
  obtain ⟨rs, i, rfl, hQ, hE⟩ := h
  show sds _ _ [some (storeD K rs), some (.int i)] _ _
  refine sds_cons ?_
  unfold storeD
  walk_at "pd"
  refine ifd (fun h0 => ?_) (fun h0 => ?_)
  · walk_at "pd"
    rw [rwDs_len]
    refine ifn (fun h1 => ?_) (fun h1 => ?_)
    · walk_at "pd"
      exact hE fun z => h1 z.2
    · walk_at "pd"
      exact hQ ⟨h0, h1⟩
  · walk_at "pd"
    exact hE fun z => h0 z.1
end
section
abbrev N_Store_len : List Str := ["self"]
theorem v_Store_len_self : Nm N_Store_len (defScope sStore_len) 0 "self" := ⟨rfl, by decide +kernel, by decide +kernel, by decide +kernel⟩
theorem gl_Store_len_len : (defScope sStore_len).names.lookup ("len" : Str) = some .globalImplicit := by decide +kernel
local macro_rules | `(tactic| walk_at "pd.nm") => `(tactic| first
  | ((with_reducible show ed _ (Expr.Name "self" _) _ _ _); first | refine ed_nm v_Store_len_self rfl ?_ | refine ed_nmB (sc := defScope sStore_len) v_Store_len_self rfl ?_)
  | fail)
local macro_rules | `(tactic| walk_at "pd.call") => `(tactic| first
  | ((with_reducible show ed _ (Expr.Call (Expr.Name "len" _) (_ :: _) _ _) _ _ _); refine ed_callB (id := "len") (b_len (by assumption)) bb_len ?_ (hg := by first | exact gl_of gl_Store_len_len))
  | fail)
local macro_rules | `(tactic| walk_at "pd.it") => `(tactic| first
  | ((with_reducible show eid _ _ _ _ _ _); refine eid_of ?_)
  | fail)
local macro_rules | `(tactic| walk_at "pd.fld") => `(tactic| first
  | ((with_reducible show ed _ (Expr.Attribute _ "rows" _) _ _ _); first | (refine ed_fld (c_Course (by assumption)) (n_Course_rows (by assumption)) ?_; walk_at "pdF"; walk_at "pd.fldX") | (refine ed_fld (c_Store (by assumption)) (n_Store_rows (by assumption)) ?_; walk_at "pdF"; walk_at "pd.fldX"))
  | fail)
end
section
abbrev N_Store_getitem : List Str := ["self", "at"]
theorem v_Store_getitem_self : Nm N_Store_getitem (defScope sStore_getitem) 0 "self" := ⟨rfl, by decide +kernel, by decide +kernel, by decide +kernel⟩
theorem v_Store_getitem_at : Nm N_Store_getitem (defScope sStore_getitem) 1 "at" := ⟨rfl, by decide +kernel, by decide +kernel, by decide +kernel⟩
local macro_rules | `(tactic| walk_at "pd.nm") => `(tactic| first
  | ((with_reducible show ed _ (Expr.Name "self" _) _ _ _); first | refine ed_nm v_Store_getitem_self rfl ?_ | refine ed_nmB (sc := defScope sStore_getitem) v_Store_getitem_self rfl ?_)
  | ((with_reducible show ed _ (Expr.Name "at" _) _ _ _); first | refine ed_nm v_Store_getitem_at rfl ?_ | refine ed_nmB (sc := defScope sStore_getitem) v_Store_getitem_at rfl ?_)
  | fail)
local macro_rules | `(tactic| walk_at "pd.call") => `(tactic| first
  | ((with_reducible show ed _ (Expr.Call (Expr.Attribute _ "need" _) (_ :: _) _ _) _ _ _); refine ed_methC (c_Store (by assumption)) (m_Store_need (by assumption)) ((ok_Store_need (by assumption)).at_ _) (by assumption) (by decide) ?_)
  | fail)
local macro_rules | `(tactic| walk_at "pd.it") => `(tactic| first
  | ((with_reducible show eid _ _ _ _ _ _); refine eid_of ?_)
  | fail)
local macro_rules | `(tactic| walk_at "pd.fld") => `(tactic| first
  | ((with_reducible show ed _ (Expr.Attribute _ "rows" _) _ _ _); first | (refine ed_fld (c_Course (by assumption)) (n_Course_rows (by assumption)) ?_; walk_at "pdF"; walk_at "pd.fldX") | (refine ed_fld (c_Store (by assumption)) (n_Store_rows (by assumption)) ?_; walk_at "pdF"; walk_at "pd.fldX"))
  | fail)
end
section
abbrev N_Store_str : List Str := ["self", "row"]
theorem sc_Store_str : FnScope N_Store_str ["self"] (defScope sStore_str) := ⟨rfl, rfl, rfl, by decide +kernel, rfl, by decide +kernel, by decide +kernel⟩
theorem v_Store_str_self : Nm N_Store_str (defScope sStore_str) 0 "self" := ⟨rfl, by decide +kernel, by decide +kernel, by decide +kernel⟩
theorem w_Store_str_row : NmB N_Store_str 1 "row" := ⟨rfl, by decide +kernel, by decide +kernel⟩
local macro_rules | `(tactic| walk_at "pd.nm") => `(tactic| first
  | ((with_reducible show ed _ (Expr.Name "self" _) _ _ _); first | refine ed_nm v_Store_str_self rfl ?_ | refine ed_nmB (sc := defScope sStore_str) v_Store_str_self rfl ?_)
  | ((with_reducible show ed _ (Expr.Name "row" _) _ _ _); refine ed_nmC (sc := defScope sStore_str) w_Store_str_row rfl ?_)
  | ((with_reducible show ed _ (Expr.Name "str" _) _ _ _); refine ed_ty (n := "str") (b_str (by assumption)) bb_str ?_ (hg := by first | exact glB_of (sc := defScope sStore_str)))
  | fail)
local macro_rules | `(tactic| walk_at "pd.g") => `(tactic| first
  | ((with_reducible show gv _ (Expr.Name "row" _) _ _ _ _ _); refine gv_nmC (sc := defScope sStore_str) w_Store_str_row sc_Store_str.nd (by decide) ?_)
  | fail)
local macro_rules | `(tactic| walk_at "pd.call") => `(tactic| first
  | ((with_reducible show ed _ (Expr.Call (Expr.Attribute _ "join" _) (_ :: _) _ _) _ _ _); with_reducible refine ed_bm PySem.F.plainAttrs_str PySem.F.slot_str_join PySem.F.type_str_join ?_)
  | ((with_reducible show ed _ (Expr.Call (Expr.Name "str" _) (_ :: _) _ _) _ _ _); refine ed_callTy (T := "str") (b_str (by assumption)) bb_str ?_ (hg := by first | exact glB_of (sc := defScope sStore_str)))
  | fail)
local macro_rules | `(tactic| walk_at "pd.lc") => `(tactic| first
  | ((with_reducible show ed _ (Expr.ListComp _ [_] _ _) _ _ _); refine ed_lc (own := [("row", 1)]) [("row", 1)] rfl rfl sc_Store_str.nd (blkOk_by (N := N_Store_str) (sc := defScope sStore_str) (by decide +kernel)) ?_)
  | fail)
local macro_rules | `(tactic| walk_at "pd.it") => `(tactic| first
  | ((with_reducible show eid _ _ _ _ _ _); refine eid_of ?_)
  | fail)
local macro_rules | `(tactic| walk_at "pd.fld") => `(tactic| first
  | ((with_reducible show ed _ (Expr.Attribute _ "rows" _) _ _ _); first | (refine ed_fld (c_Course (by assumption)) (n_Course_rows (by assumption)) ?_; walk_at "pdF"; walk_at "pd.fldX") | (refine ed_fld (c_Store (by assumption)) (n_Store_rows (by assumption)) ?_; walk_at "pdF"; walk_at "pd.fldX"))
  | fail)
end
section
abbrev N_Store_eq : List Str := ["self", "other"]
theorem v_Store_eq_self : Nm N_Store_eq (defScope sStore_eq) 0 "self" := ⟨rfl, by decide +kernel, by decide +kernel, by decide +kernel⟩
theorem v_Store_eq_other : Nm N_Store_eq (defScope sStore_eq) 1 "other" := ⟨rfl, by decide +kernel, by decide +kernel, by decide +kernel⟩
theorem gl_Store_eq_Store : (defScope sStore_eq).names.lookup ("Store" : Str) = some .globalImplicit := by decide +kernel
theorem gl_Store_eq_isinstance : (defScope sStore_eq).names.lookup ("isinstance" : Str) = some .globalImplicit := by decide +kernel
theorem gl_Store_eq_str : (defScope sStore_eq).names.lookup ("str" : Str) = some .globalImplicit := by decide +kernel
local macro_rules | `(tactic| walk_at "pd.nm") => `(tactic| first
  | ((with_reducible show ed _ (Expr.Name "self" _) _ _ _); first | refine ed_nm v_Store_eq_self rfl ?_ | refine ed_nmB (sc := defScope sStore_eq) v_Store_eq_self rfl ?_)
  | ((with_reducible show ed _ (Expr.Name "other" _) _ _ _); first | refine ed_nm v_Store_eq_other rfl ?_ | refine ed_nmB (sc := defScope sStore_eq) v_Store_eq_other rfl ?_)
  | ((with_reducible show ed _ (Expr.Name "Store" _) _ _ _); refine ed_gref (g_Store (by assumption)) ?_ (hg := by first | exact gl_of gl_Store_eq_Store))
  | ((with_reducible show ed _ (Expr.Name "str" _) _ _ _); refine ed_ty (n := "str") (b_str (by assumption)) bb_str ?_ (hg := by first | exact gl_of gl_Store_eq_str))
  | fail)
local macro_rules | `(tactic| walk_at "pd.call") => `(tactic| first
  | ((with_reducible show ed _ (Expr.Call (Expr.Name "isinstance" _) (_ :: _) _ _) _ _ _); refine ed_callB (id := "isinstance") (b_isinstance (by assumption)) bb_isinstance ?_ (hg := by first | exact gl_of gl_Store_eq_isinstance))
  | ((with_reducible show ed _ (Expr.Call (Expr.Name "str" _) (_ :: _) _ _) _ _ _); refine ed_callTy (T := "str") (b_str (by assumption)) bb_str ?_ (hg := by first | exact gl_of gl_Store_eq_str))
  | fail)
local macro_rules | `(tactic| walk_at "pd.it") => `(tactic| first
  | ((with_reducible show eid _ _ _ _ _ _); refine eid_of ?_)
  | fail)
end
end
section
variable {P : Program} {w : World} {K : PySem.W.Frag} {mg : Str → Option Value} {base : Heap}
/-! ### a row read, any text -/
theorem xa_InvalidText (T : T0 w K mg) : ExcAny P w K mg base (He.ga K "InvalidText") "at" := by
  obtain ⟨fd, F⟩ := f_InvalidText_init T
  exact ⟨xn_InvalidText T, _, _, _, _, _, fd, _, basVE, xg_InvalidText T, xi_InvalidText T, xt_InvalidText T, FunD.bindsN (ps := ["self", "at"]) F (fun _ _ _ _ _ _ us hl => match us, hl with | [_, _], _ => rfl), fn_oexX basVE F sc_InvalidText_init v_InvalidText_init_0 v_InvalidText_init_1⟩
abbrev notDo (x : Str) : Bool := decide (x ≠ Str.ofString "do")
def readW (k : Str) (m : List Str) (l : Str) : Option Rw :=
  if l ∈ (["yes", "no"] : List Str) then
    if m.takeWhile notDo ≠ [] ∧ (m.takeWhile notDo).headD "" ≠ Str.ofString "if" then none
    else if rowBad (.str k) (.lst ((if m.takeWhile notDo = [] then [] else toldB ((m.takeWhile notDo).drop 1) "and").map .str)) (.lst ((if Str.ofString "do" ∈ m then toldB ((m.dropWhile notDo).drop 1) "then" else []).map .str)) (.bl (decide (l = "yes"))) = none
      then some ⟨k, if m.takeWhile notDo = [] then [] else toldB ((m.takeWhile notDo).drop 1) "and", if Str.ofString "do" ∈ m then toldB ((m.dropWhile notDo).drop 1) "then" else [], decide (l = "yes")⟩ else none
  else none
def readP (t : Str) : Option Rw := match Txt.split t " " with
  | k :: x :: r => readW k ((x :: r).dropLast) ((x :: r).getLastD "")
  | _ => none
theorem do_split {m : List Str} (h : Str.ofString "do" ∈ m) : ∃ r, m = m.takeWhile notDo ++ Str.ofString "do" :: r ∧ m.dropWhile notDo = Str.ofString "do" :: r ∧ ∀ x ∈ m.takeWhile notDo, x ≠ Str.ofString "do" := by
  have hn : ∀ x ∈ m.takeWhile notDo, x ≠ Str.ofString "do" := fun x hx => of_decide_eq_true (List.all_eq_true.mp (List.all_takeWhile) x hx)
  cases e : m.dropWhile notDo with
  | nil =>
    have e2 := List.takeWhile_append_dropWhile (p := notDo) (l := m)
    rw [e, List.append_nil] at e2
    rw [← e2] at h
    exact absurd rfl (hn _ h)
  | cons x r =>
    have hx : notDo x = false := by
      have h2 := List.head?_dropWhile_not notDo m
      rw [e] at h2
      simpa using h2
    have hx : x = Str.ofString "do" := by simpa using hx
    subst hx
    exact ⟨r, by rw [← e, List.takeWhile_append_dropWhile], rfl, hn⟩
theorem do_none {m : List Str} (h : Str.ofString "do" ∉ m) : m.takeWhile notDo = m := by
  have : ∀ x ∈ m, notDo x = true := fun x hx => decide_eq_true fun e => h (e ▸ hx)
  clear h
  induction m with
  | nil => rfl
  | cons x m ih => rw [List.takeWhile_cons, if_pos (this x List.mem_cons_self), ih fun y hy => this y (List.mem_cons_of_mem _ hy)]
theorem told_each {ws : List Str} {sign : Str} {n : Nat} (h : wgtB ws ≤ n) : ∀ u ∈ toldB ws sign, u.length ≤ n := by
  intro u hu
  unfold toldB at hu
  obtain ⟨p, hp, rfl⟩ := List.mem_map.mp hu
  have h1 := foldB_part sign n ws ([], []) (fun _ h => (List.not_mem_nil h).elim) (by show 0 + wgtB ws ≤ n; omega) p hp
  have h2 := len_join (Str.ofString " ") p
  have e : (Str.ofString " ").length = 1 := by decide
  rw [e] at h2
  unfold wgtB at h1
  have h3 : (Txt.join " " p).length ≤ (p.map (·.length)).sum + p.length := by
    have h2 : (Txt.join (Str.ofString " ") p).length ≤ _ := h2
    omega
  omega
theorem wgt_sub {a b : List Str} (h : a.Sublist b) : wgtB a ≤ wgtB b := by
  induction h with
  | slnil => exact Nat.le_refl _
  | cons x _ ih => rw [wgtB_cons]; omega
  | cons_cons x _ ih => rw [wgtB_cons, wgtB_cons]; omega
theorem wgt_mem {w : Str} {l : List Str} (h : w ∈ l) : w.length ≤ wgtB l := by
  have := wgt_sub (List.singleton_sublist.mpr h)
  rw [wgtB_cons] at this
  omega
theorem wgt_len (l : List Str) : l.length ≤ wgtB l := by unfold wgtB; omega
def spReadX (K : PySem.W.Frag) : SpD := fun ds μ Q E => ∃ t, ds = [.ref (He.ga K "Row"), .str t] ∧ t.length ≤ 900 ∧ (readP t = none → ∀ G, E (.ref (He.ga K "InvalidText")) ["at"] [.int 0] (G ++ μ)) ∧ (∀ r, readP t = some r → Q (r.d (He.ga K "Row")) μ)
theorem cutD_mid {α : D} {xs : List D} {b : D} : PD.cutD (α :: (xs ++ [b])) (some 1) (some (-1)) = xs := by
  unfold PD.cutD HT.sIx
  simp
  have e : (-1 + ((xs.length : Int) + 1 + 1)).toNat - 1 = xs.length := by omega
  rw [e, List.take_left]
theorem atI_lastc (α : D) (xs : List D) (b : D) : atI (α :: (xs ++ [b])) (-1) = some b := by
  have := atI_last (α :: xs) b
  exact this
section
abbrev N_Row_read : List Str := ["cls", "text", "words", "middle", "tests", "deeds"]
theorem sc_Row_read : FnScope N_Row_read ["cls", "text"] (defScope sRow_read) := ⟨rfl, rfl, rfl, by decide +kernel, rfl, by decide +kernel, by decide +kernel⟩
theorem v_Row_read_cls : Nm N_Row_read (defScope sRow_read) 0 "cls" := ⟨rfl, by decide +kernel, by decide +kernel, by decide +kernel⟩
theorem v_Row_read_text : Nm N_Row_read (defScope sRow_read) 1 "text" := ⟨rfl, by decide +kernel, by decide +kernel, by decide +kernel⟩
theorem v_Row_read_words : Nm N_Row_read (defScope sRow_read) 2 "words" := ⟨rfl, by decide +kernel, by decide +kernel, by decide +kernel⟩
theorem v_Row_read_middle : Nm N_Row_read (defScope sRow_read) 3 "middle" := ⟨rfl, by decide +kernel, by decide +kernel, by decide +kernel⟩
theorem v_Row_read_tests : Nm N_Row_read (defScope sRow_read) 4 "tests" := ⟨rfl, by decide +kernel, by decide +kernel, by decide +kernel⟩
theorem v_Row_read_deeds : Nm N_Row_read (defScope sRow_read) 5 "deeds" := ⟨rfl, by decide +kernel, by decide +kernel, by decide +kernel⟩
theorem gl_Row_read_InvalidRow : (defScope sRow_read).names.lookup ("InvalidRow" : Str) = some .globalImplicit := by decide +kernel
theorem gl_Row_read_InvalidText : (defScope sRow_read).names.lookup ("InvalidText" : Str) = some .globalImplicit := by decide +kernel
theorem gl_Row_read_len : (defScope sRow_read).names.lookup ("len" : Str) = some .globalImplicit := by decide +kernel
theorem gl_Row_read_told_between : (defScope sRow_read).names.lookup ("told_between" : Str) = some .globalImplicit := by decide +kernel
local macro_rules | `(tactic| walk_at "pd.nm") => `(tactic| first
  | ((with_reducible show ed _ (Expr.Name "cls" _) _ _ _); first | refine ed_nm v_Row_read_cls rfl ?_ | refine ed_nmB (sc := defScope sRow_read) v_Row_read_cls rfl ?_)
  | ((with_reducible show ed _ (Expr.Name "text" _) _ _ _); first | refine ed_nm v_Row_read_text rfl ?_ | refine ed_nmB (sc := defScope sRow_read) v_Row_read_text rfl ?_)
  | ((with_reducible show ed _ (Expr.Name "words" _) _ _ _); first | refine ed_nm v_Row_read_words rfl ?_ | refine ed_nmB (sc := defScope sRow_read) v_Row_read_words rfl ?_)
  | ((with_reducible show ed _ (Expr.Name "middle" _) _ _ _); first | refine ed_nm v_Row_read_middle rfl ?_ | refine ed_nmB (sc := defScope sRow_read) v_Row_read_middle rfl ?_)
  | ((with_reducible show ed _ (Expr.Name "tests" _) _ _ _); first | refine ed_nm v_Row_read_tests rfl ?_ | refine ed_nmB (sc := defScope sRow_read) v_Row_read_tests rfl ?_)
  | ((with_reducible show ed _ (Expr.Name "deeds" _) _ _ _); first | refine ed_nm v_Row_read_deeds rfl ?_ | refine ed_nmB (sc := defScope sRow_read) v_Row_read_deeds rfl ?_)
  | ((with_reducible show ed _ (Expr.Name "InvalidRow" _) _ _ _); refine ed_gref (g_InvalidRow (by assumption)) ?_ (hg := by first | exact gl_of gl_Row_read_InvalidRow))
  | ((with_reducible show ed _ (Expr.Name "InvalidText" _) _ _ _); refine ed_gref (g_InvalidText (by assumption)) ?_ (hg := by first | exact gl_of gl_Row_read_InvalidText))
  | fail)
local macro_rules | `(tactic| walk_at "pd.set") => `(tactic| first
  | ((with_reducible show sd _ (Stmt.Assign [Expr.Name "words" _] _ _) _ _ _); refine sd_nm v_Row_read_words sc_Row_read.nd ?_)
  | ((with_reducible show sd _ (Stmt.Assign [Expr.Name "middle" _] _ _) _ _ _); refine sd_nm v_Row_read_middle sc_Row_read.nd ?_)
  | ((with_reducible show sd _ (Stmt.Assign [Expr.Name "tests" _] _ _) _ _ _); refine sd_nm v_Row_read_tests sc_Row_read.nd ?_)
  | ((with_reducible show sd _ (Stmt.Assign [Expr.Name "deeds" _] _ _) _ _ _); refine sd_nm v_Row_read_deeds sc_Row_read.nd ?_)
  | fail)
local macro_rules | `(tactic| walk_at "pd.g") => `(tactic| first
  | ((with_reducible show gd _ (Expr.Name "words" _) _ _ _ _); refine gd_nm v_Row_read_words sc_Row_read.nd ?_)
  | ((with_reducible show gd _ (Expr.Name "middle" _) _ _ _ _); refine gd_nm v_Row_read_middle sc_Row_read.nd ?_)
  | ((with_reducible show gd _ (Expr.Name "tests" _) _ _ _ _); refine gd_nm v_Row_read_tests sc_Row_read.nd ?_)
  | ((with_reducible show gd _ (Expr.Name "deeds" _) _ _ _ _); refine gd_nm v_Row_read_deeds sc_Row_read.nd ?_)
  | fail)
local macro_rules | `(tactic| walk_at "pd.call") => `(tactic| first
  | ((with_reducible show ed _ (Expr.Call (Expr.Name "cls" _) (_ :: _) _ _) _ _ _); refine ed_makeL v_Row_read_cls rfl (mk_Row_4 (by assumption)) (by assumption) (by decide) ?_)
  | ((with_reducible show ed _ (Expr.Call (Expr.Attribute _ "split" _) (_ :: _) _ _) _ _ _); with_reducible refine ed_bm PySem.F.plainAttrs_str PySem.F.slot_str_split PySem.F.type_str_split ?_)
  | ((with_reducible show ed _ (Expr.Call (Expr.Name "told_between" _) (_ :: _) _ _) _ _ _); refine ed_callC ((ok_told_between (by assumption)).at_ _) (by assumption) (by decide) (g_told_between (by assumption)) ?_ (hg := by first | exact gl_of gl_Row_read_told_between))
  | ((with_reducible show ed _ (Expr.Call (Expr.Name "len" _) (_ :: _) _ _) _ _ _); refine ed_callB (id := "len") (b_len (by assumption)) bb_len ?_ (hg := by first | exact gl_of gl_Row_read_len))
  | ((with_reducible show ed _ (Expr.Call (Expr.Attribute _ "index" _) (_ :: _) _ _) _ _ _); with_reducible refine ed_bm PySem.F.plainAttrs_list PySem.F.slot_list_index PySem.F.type_list_index ?_)
  | fail)
local macro_rules | `(tactic| walk_at "pd.it") => `(tactic| first
  | ((with_reducible show eid _ _ _ _ _ _); refine eid_of ?_)
  | fail)
local macro_rules | `(tactic| walk_at "pd.raise") => `(tactic| first
  | ((with_reducible show sd _ (Stmt.Raise (some (Expr.Call (Expr.Name "InvalidText" _) _ _ _)) none _) _ _ _); refine sd_raiseOwn rfl (x_InvalidText (by assumption)) (by assumption) (by decide) (g_InvalidText (by assumption)) ?_ (hg := by first | exact gl_of gl_Row_read_InvalidText))
  | fail)
local macro_rules | `(tactic| walk_at "pd.try") => `(tactic| first
  | ((with_reducible show sd _ (Stmt.Try _ [ExceptHandler.ExceptHandler (some (Expr.Name "InvalidRow" _)) none _ _] _ _ _) _ _ _); refine sd_try_calm (c := .ref (He.ga _ "InvalidRow")) rfl rfl ⟨gl_of gl_Row_read_InvalidRow, by decide +kernel, .inl (g_InvalidRow (by assumption))⟩ ?_)
  | fail)
local macro_rules | `(tactic| walk_at "pd.par") => `(tactic| first
  | ((with_reducible show sd _ (Stmt.Assign [Expr.Tuple [Expr.Name "middle" _, Expr.Name "tests" _, Expr.Name "deeds" _] _ _] (Expr.Tuple [_, _, _] _ _) _) _ _ _); refine sd_par3 rfl sc_Row_read.nd v_Row_read_middle v_Row_read_tests v_Row_read_deeds (by decide +kernel) (by decide +kernel) (by decide +kernel) (by decide) (by decide) (by decide) ?_)
  | fail)
theorem ok_Row_read (T : T0 w K mg) : CallM P w K mg base 6 (He5.wf K (He.ga K "Row") "classmethod" "read") 2 [] (spReadX K) := by
  obtain ⟨fd, F⟩ := f_Row_read T
  refine CallM.mk0 (ps := ["cls", "text"]) F (fun _ _ _ _ _ _ us hl => match us, hl with | [_, _], _ => rfl) (fun b hb => fnD_of F sc_Row_read fun cdv A outer s H F0 μ ds Qd Ed hr hl h => ?_)
  obtain ⟨t, rfl, hlen, hE, hQ⟩ := h
  have hom : b = some false ∨ (b = none ∧ some true = some true) := by
    match b, hb with
    | some false, _ => exact .inl rfl
    | none, _ => exact .inr ⟨rfl, rfl⟩
    | some true, h => exact absurd rfl h
  show sds _ _ [some (.ref (He.ga K "Row")), some (.str t), none, none, none, none] _ _
  have hw : wgtB (Txt.split t " ") ≤ 901 := by
    have h : wgtB (Txt.split t " ") ≤ t.length + 1 := split_weight t " " (by decide)
    omega
  refine sds_cons ?_
  walk_at "pd"
  refine mtd_split (by decide) (small_le (by omega)) ?_
  generalize hws : Txt.split t " " = ws at hw
  have hwl := wgt_len ws
  walk_at "pdS"
  refine sds_cons ?_
  walk_at "pd"
  rw [List.length_map]
  have hshort : ws.length < 2 → readP t = none := fun h => by
    unfold readP
    rw [hws]
    match ws, h with
    | [], _ => rfl
    | [_], _ => rfl
  refine ifd (fun h => ?_) (fun h => ?_)
  · walk_at "pd"
    exact hE (hshort (by omega)) []
  have h2 : 2 ≤ ws.length := by omega
  obtain ⟨k, m, l, rfl⟩ : ∃ k m l, ws = k :: (m ++ [l]) := by
    match ws, h2 with
    | k :: x :: r, _ =>
      rcases List.eq_nil_or_concat (x :: r) with e | ⟨m, l, e⟩
      · cases e
      · exact ⟨k, m, l, by rw [e, List.concat_eq_append]⟩
  have hread : readP t = readW k m l := by
    unfold readP
    rw [hws]
    cases hm : m ++ [l] with
    | nil => exact absurd hm (by simp)
    | cons x r =>
      show readW k ((x :: r).dropLast) ((x :: r).getLastD "") = _
      rw [← hm, List.dropLast_concat, List.getLastD_concat]
  rw [hread] at hE hQ
  rw [List.map_cons, List.map_append, List.map_cons, List.map_nil]
  walk_at "pd"
  refine ixd_lst (atI_lastc _ _ _) ?_
  walk_at "pd"
  refine opd_notInS ["yes", "no"] (.tup _) rfl ?_
  by_cases hy : l ∈ (["yes", "no"] : List Str)
  case neg =>
    rw [decide_eq_false hy]
    walk_at "pd"
    exact hE (by unfold readW; rw [if_neg hy]) []
  rw [decide_eq_true hy]
  walk_at "pdS"
  refine sds_cons ?_
  walk_at "pdS"
  rw [cutD_mid]
  have hwm : wgtB m ≤ 901 := Nat.le_trans (wgt_sub ((List.sublist_append_left m [l]).trans (List.sublist_cons_self _ _))) hw
  obtain ⟨tw, htw⟩ : ∃ tw, tw = m.takeWhile notDo := ⟨_, rfl⟩
  obtain ⟨dd, hdd⟩ : ∃ dd, dd = if Str.ofString "do" ∈ m then toldB ((m.dropWhile notDo).drop 1) "then" else [] := ⟨_, rfl⟩
  obtain ⟨tt, htt⟩ : ∃ tt, tt = if tw = [] then [] else toldB (tw.drop 1) "and" := ⟨_, rfl⟩
  have hrd : readW k m l = if tw ≠ [] ∧ tw.headD "" ≠ Str.ofString "if" then none else if rowBad (.str k) (.lst (tt.map .str)) (.lst (dd.map .str)) (.bl (decide (l = "yes"))) = none then some ⟨k, tt, dd, decide (l = "yes")⟩ else none := by
    unfold readW
    rw [if_pos hy, ← htw, ← htt, ← hdd]
  rw [hrd] at hE hQ
  have hwt : wgtB tw ≤ 901 := Nat.le_trans (wgt_sub (by rw [htw]; exact List.takeWhile_sublist _)) hwm
  have hdl : (∀ u ∈ dd, u.length ≤ 901) ∧ dd.length ≤ 1000 := by
    rw [hdd]
    split
    · have h1 : wgtB ((m.dropWhile notDo).drop 1) ≤ 901 := Nat.le_trans (wgt_sub ((List.drop_sublist _ _).trans (List.dropWhile_sublist _))) hwm
      exact ⟨told_each h1, Nat.le_trans (toldB_len _ _) (by have := wgt_len ((m.dropWhile notDo).drop 1); omega)⟩
    · exact ⟨fun _ h => (List.not_mem_nil h).elim, Nat.zero_le _⟩
  have htl : (∀ u ∈ tt, u.length ≤ 901) ∧ tt.length ≤ 1000 := by
    rw [htt]
    split
    · exact ⟨fun _ h => (List.not_mem_nil h).elim, Nat.zero_le _⟩
    · have h1 : wgtB (tw.drop 1) ≤ 901 := Nat.le_trans (wgt_sub (List.drop_sublist _ _)) hwt
      exact ⟨told_each h1, Nat.le_trans (toldB_len _ _) (by have := wgt_len (tw.drop 1); omega)⟩
  refine sds_cut (fun δ' μ' => δ' = [some (.ref (He.ga K "Row")), some (.str t), some (.lst (D.str k :: (List.map D.str m ++ [D.str l]))), some (.lst (tw.map .str)), some (.lst []), some (.lst (dd.map .str))] ∧ μ = μ') ?_ ?_
  · walk_at "pd"
    refine ifd (fun h => ?_) (fun h => ?_)
    · obtain ⟨r, hm, hdw, hnd⟩ := do_split h
      rw [if_pos h, hdw] at hdd
      rw [← htw] at hm hnd
      have hix : m[tw.length]? = some (Str.ofString "do") := by rw [hm]; simp
      have hno : ∀ j, j < tw.length → m[j]? ≠ some (Str.ofString "do") := fun j hj e => by
        rw [hm, List.getElem?_append_left hj] at e
        exact hnd _ (List.mem_of_getElem? e) rfl
      have hml : m.length = tw.length + 1 + r.length := by rw [hm]; simp; omega
      walk_at "pd"
      refine mtd_indexS hix hno ?_
      walk_at "pd"
      rw [cutD_from (by omega) (by rw [List.length_map]; omega)]
      have e1 : (List.map D.str m).drop ((tw.length : Int) + 1).toNat = r.map .str := by
        have : ((tw.length : Int) + 1).toNat = tw.length + 1 := by omega
        rw [this, hm, List.map_append, List.map_cons, ← List.drop_drop, List.drop_left' (by simp)]; rfl
      rw [e1]
      walk_at "pd"
      have hwr : wgtB r ≤ 901 := Nat.le_trans (wgt_sub (by rw [hm]; exact (List.sublist_cons_self _ _).trans (List.sublist_append_right _ _))) hwm
      refine ⟨r, "then", rfl, by omega, ?_⟩
      rw [show toldB r "then" = dd from hdd.symm]
      walk_at "pd"
      refine mtd_indexS hix hno ?_
      walk_at "pd"
      rw [cutD_to (by omega) (by rw [List.length_map]; omega)]
      walk_at "pd"
      have e2 : (List.map D.str m).take ((tw.length : Int)).toNat = tw.map .str := by
        rw [Int.toNat_natCast, hm, List.map_append, List.take_left' (by simp)]
      rw [e2]
      exact ⟨rfl, rfl⟩
    · rw [if_neg h] at hdd
      rw [do_none h] at htw
      subst htw
      subst hdd
      walk_at "pd"
      exact ⟨rfl, rfl⟩
  rintro δ' μ' ⟨rfl, rfl⟩
  refine sds_cut (fun δ' μ' => (∃ x, δ' = [some (.ref (He.ga K "Row")), some (.str t), some (.lst (D.str k :: (List.map D.str m ++ [D.str l]))), x, some (.lst (tt.map .str)), some (.lst (dd.map .str))]) ∧ ¬ (tw ≠ [] ∧ tw.headD "" ≠ Str.ofString "if") ∧ μ = μ') ?_ ?_
  · walk_at "pd"
    rw [List.length_map]
    cases htw2 : tw with
    | nil =>
      rw [htw2, if_pos rfl] at htt
      subst htt
      refine ifd (fun h => absurd h (by decide)) (fun _ => ?_)
      walk_at "pd"
      exact ⟨⟨_, rfl⟩, fun h => h.1 rfl, rfl⟩
    | cons x r =>
      refine ifd (fun _ => ?_) (fun h => absurd (by simp) h)
      rw [List.map_cons]
      walk_at "pd"
      by_cases hx : x = Str.ofString "if"
      · subst hx
        rw [decide_eq_true rfl]
        walk_at "pd"
        rw [cutD_from (by decide) (by simp; omega)]
        walk_at "pd"
        have hr2 : wgtB r ≤ 901 := by rw [htw2, wgtB_cons] at hwt; omega
        refine ⟨r, "and", rfl, by omega, ?_⟩
        have e3 : tt = toldB r "and" := by rw [htt, htw2, if_neg (List.cons_ne_nil _ _)]; rfl
        rw [← e3]
        walk_at "pd"
        exact ⟨⟨_, rfl⟩, fun h => h.2 rfl, rfl⟩
      · rw [decide_eq_false hx]
        walk_at "pd"
        exact hE (by rw [htw2, if_pos ⟨List.cons_ne_nil _ _, hx⟩]) []
  rintro δ' μ' ⟨⟨x, rfl⟩, hif, rfl⟩
  rw [if_neg hif] at hE hQ
  refine sds_cons ?_
  refine sd_try_fromG (bm := some true) (by decide) hom rfl rfl ⟨_, _, rfl⟩ ⟨gl_of gl_Row_read_InvalidRow, by decide +kernel, .inl (g_InvalidRow T)⟩ (xa_InvalidText T) hr (by decide) (g_InvalidText T) (Arg.int 0 _ _) ?_
  intro F1 μ1 H1 pn xe tk po
  walk_at "pd"
  refine ixd_lst (atI_lastc _ _ _) ?_
  walk_at "pd"
  have hkl : k.length ≤ 901 := Nat.le_trans (wgt_mem List.mem_cons_self) hw
  refine ⟨_, _, _, _, rfl, ⟨rfl, fun z e => by cases e; omega⟩, ⟨rfl, (fun _ e => nomatch e), fun xs e => by cases e; exact ⟨by rw [List.length_map]; exact htl.2, fun y hy => by obtain ⟨u, hu, rfl⟩ := List.mem_map.mp hy; exact ⟨rfl, fun z e => by cases e; have := htl.1 u hu; omega⟩⟩⟩, ⟨rfl, (fun _ e => nomatch e), fun xs e => by cases e; exact ⟨by rw [List.length_map]; exact hdl.2, fun y hy => by obtain ⟨u, hu, rfl⟩ := List.mem_map.mp hy; exact ⟨rfl, fun z e => by cases e; have := hdl.1 u hu; omega⟩⟩⟩, rfl, fun w p dx hb => ?_, fun k' ts' ws' a' e1 e2 e3 e4 hb => ?_⟩
  · exact ⟨true, xm_InvalidRow_InvalidRow T, fun _ => ⟨_, rfl, hE (if_neg (by rw [hb]; exact fun z => nomatch z)) [(p, _)]⟩, fun h => nomatch h⟩
  · cases e1; cases e2; cases e3; cases e4
    have h := hQ _ (if_pos hb)
    exact h
end
end
section
variable {P : Program} {w : World} {K : PySem.W.Frag} {mg : Str → Option Value} {base : Heap}
/-! ### stores read, any text -/
def spRowAtX (K : PySem.W.Frag) : SpD := fun ds μ Q E => ∃ (t : Str) (n : Nat), ds = [.str t, .int (n : Int)] ∧ t.length ≤ 900 ∧ (readP t = none → ∀ G, E (.ref (He.ga K "InvalidText")) ["at"] [.int (n : Int)] (G ++ μ)) ∧ (∀ r, readP t = some r → Q (r.d (He.ga K "Row")) μ)
section
abbrev N_row_at : List Str := ["line", "at"]
theorem sc_row_at : FnScope N_row_at ["line", "at"] (defScope srow_at) := ⟨rfl, rfl, rfl, by decide +kernel, rfl, by decide +kernel, by decide +kernel⟩
theorem v_row_at_line : Nm N_row_at (defScope srow_at) 0 "line" := ⟨rfl, by decide +kernel, by decide +kernel, by decide +kernel⟩
theorem v_row_at_at : Nm N_row_at (defScope srow_at) 1 "at" := ⟨rfl, by decide +kernel, by decide +kernel, by decide +kernel⟩
theorem gl_row_at_InvalidText : (defScope srow_at).names.lookup ("InvalidText" : Str) = some .globalImplicit := by decide +kernel
theorem gl_row_at_Row : (defScope srow_at).names.lookup ("Row" : Str) = some .globalImplicit := by decide +kernel
local macro_rules | `(tactic| walk_at "pd.nm") => `(tactic| first
  | ((with_reducible show ed _ (Expr.Name "line" _) _ _ _); first | refine ed_nm v_row_at_line rfl ?_ | refine ed_nmB (sc := defScope srow_at) v_row_at_line rfl ?_)
  | ((with_reducible show ed _ (Expr.Name "at" _) _ _ _); first | refine ed_nm v_row_at_at rfl ?_ | refine ed_nmB (sc := defScope srow_at) v_row_at_at rfl ?_)
  | ((with_reducible show ed _ (Expr.Name "InvalidText" _) _ _ _); refine ed_gref (g_InvalidText (by assumption)) ?_ (hg := by first | exact gl_of gl_row_at_InvalidText))
  | ((with_reducible show ed _ (Expr.Name "Row" _) _ _ _); refine ed_gref (g_Row (by assumption)) ?_ (hg := by first | exact gl_of gl_row_at_Row))
  | fail)
local macro_rules | `(tactic| walk_at "pd.call") => `(tactic| first
  | ((with_reducible show ed _ (Expr.Call (Expr.Attribute (Expr.Name "Row" _) "read" _) (_ :: _) _ _) _ _ _); refine ed_cmC (cm_Row_read (by assumption)) ((ok_Row_read (by assumption)).at_ _) (by assumption) (by decide) ?_)
  | fail)
local macro_rules | `(tactic| walk_at "pd.it") => `(tactic| first
  | ((with_reducible show eid _ _ _ _ _ _); refine eid_of ?_)
  | fail)
local macro_rules | `(tactic| walk_at "pd.try") => `(tactic| first
  | ((with_reducible show sd _ (Stmt.Try _ [ExceptHandler.ExceptHandler (some (Expr.Name "InvalidText" _)) none _ _] _ _ _) _ _ _); refine sd_try_calm (c := .ref (He.ga _ "InvalidText")) rfl rfl ⟨gl_of gl_row_at_InvalidText, by decide +kernel, .inl (g_InvalidText (by assumption))⟩ ?_)
  | fail)
theorem ok_row_at (T : T0 w K mg) : CallF P w K mg base 7 (He.ga K "row_at") 2 [] (spRowAtX K) := by
  obtain ⟨fd, F⟩ := f_row_at T
  refine CallF.mk0 (ps := ["line", "at"]) F (fun _ _ _ _ _ _ us hl => match us, hl with | [_, _], _ => rfl) (fnD_of F sc_row_at fun cdv A outer s H F0 μ ds Qd Ed hr hl h => ?_)
  obtain ⟨t, n, rfl, hlen, hE, hQ⟩ := h
  show sds _ _ [some (.str t), some (.int (n : Int))] _ _
  refine sds_cons ?_
  refine sd_try_fromG (bm := none) (by decide) (.inl rfl) rfl rfl ⟨_, _, rfl⟩ ⟨gl_of gl_row_at_InvalidText, by decide +kernel, .inl (g_InvalidText T)⟩ (xa_InvalidText T) hr (by decide) (g_InvalidText T) (Arg.nm (j := 1) rfl (v_row_at_at.vis rfl) (by show 1 ≠ 2; decide) (by decide +kernel) (by decide +kernel)) ?_
  intro F1 μ1 H1 pn xe tk po
  walk_at "pd"
  refine ⟨rfl, ?_⟩
  walk_at "pd"
  refine ⟨t, rfl, hlen, fun h G => ?_, fun r h => ?_⟩
  · exact ⟨true, xm_InvalidText_InvalidText T, fun _ => ⟨_, rfl, hE h G⟩, fun h => nomatch h⟩
  · exact hQ r h
end
def linesOf (t : Str) : List Str := if t = "" then [] else Txt.split t "\n"
def spStoreReadX (K : PySem.W.Frag) : SpD := fun ds μ Q E => ∃ t, ds = [.ref (He.ga K "Store"), .str t] ∧ t.length ≤ 90000 ∧ (linesOf t).length ≤ 100 ∧ (∀ l ∈ linesOf t, l.length ≤ 900) ∧
  (∀ (j : Nat) l, (linesOf t)[j]? = some l → readP l = none → (∀ l' ∈ (linesOf t).take j, (readP l').isSome = true) → ∀ G, E (.ref (He.ga K "InvalidText")) ["at"] [.int (j : Int)] (G ++ μ)) ∧
  ∀ rs, (linesOf t).map readP = rs.map some → (∀ r ∈ rs, r.ws.length ≤ 100) ∧ Q (storeD K rs) μ
section
abbrev N_Store_read : List Str := ["cls", "text", "lines", "at", "line"]
theorem sc_Store_read : FnScope N_Store_read ["cls", "text"] (defScope sStore_read) := ⟨rfl, rfl, rfl, by decide +kernel, rfl, by decide +kernel, by decide +kernel⟩
theorem v_Store_read_cls : Nm N_Store_read (defScope sStore_read) 0 "cls" := ⟨rfl, by decide +kernel, by decide +kernel, by decide +kernel⟩
theorem v_Store_read_text : Nm N_Store_read (defScope sStore_read) 1 "text" := ⟨rfl, by decide +kernel, by decide +kernel, by decide +kernel⟩
theorem v_Store_read_lines : Nm N_Store_read (defScope sStore_read) 2 "lines" := ⟨rfl, by decide +kernel, by decide +kernel, by decide +kernel⟩
theorem w_Store_read_at : NmB N_Store_read 3 "at" := ⟨rfl, by decide +kernel, by decide +kernel⟩
theorem w_Store_read_line : NmB N_Store_read 4 "line" := ⟨rfl, by decide +kernel, by decide +kernel⟩
theorem gl_Store_read_enumerate : (defScope sStore_read).names.lookup ("enumerate" : Str) = some .globalImplicit := by decide +kernel
theorem sl_Store_read_lines : (defScope sStore_read).names.lookup ("lines" : Str) = some .local := by decide +kernel
local macro_rules | `(tactic| walk_at "pd.nm") => `(tactic| first
  | ((with_reducible show ed _ (Expr.Name "cls" _) _ _ _); first | refine ed_nm v_Store_read_cls rfl ?_ | refine ed_nmBX (sc := defScope sStore_read) v_Store_read_cls rfl ?_)
  | ((with_reducible show ed _ (Expr.Name "text" _) _ _ _); first | refine ed_nm v_Store_read_text rfl ?_ | refine ed_nmBX (sc := defScope sStore_read) v_Store_read_text rfl ?_)
  | ((with_reducible show ed _ (Expr.Name "lines" _) _ _ _); first | refine ed_nm v_Store_read_lines rfl ?_ | refine ed_nmBX (sc := defScope sStore_read) v_Store_read_lines rfl ?_)
  | ((with_reducible show ed _ (Expr.Name "at" _) _ _ _); refine ed_nmCX (sc := defScope sStore_read) w_Store_read_at rfl ?_)
  | ((with_reducible show ed _ (Expr.Name "line" _) _ _ _); refine ed_nmCX (sc := defScope sStore_read) w_Store_read_line rfl ?_)
  | ((with_reducible show ed _ (Expr.Name "enumerate" _) _ _ _); refine ed_ty (n := "enumerate") (b_enumerate (by assumption)) bb_enumerate ?_ (hg := by first | exact gl_of gl_Store_read_enumerate | exact glBX_of (sc := defScope sStore_read)))
  | fail)
local macro_rules | `(tactic| walk_at "pd.set") => `(tactic| first
  | ((with_reducible show sd _ (Stmt.Assign [Expr.Name "lines" _] (Expr.ListComp _ _ _ _) _) _ _ _); refine sd_setLc (own := [("at", 3), ("line", 4)]) (i := 2) rfl sc_Store_read.nd rfl (by exact sl_Store_read_lines) (sw_true rfl (by exact sl_Store_read_lines) rfl (by decide +kernel)) (blkOk_by (N := N_Store_read) (sc := defScope sStore_read) (by decide +kernel)) ?_)
  | ((with_reducible show sd _ (Stmt.Assign [Expr.Name "lines" _] _ _) _ _ _); refine sd_nm v_Store_read_lines sc_Store_read.nd ?_)
  | fail)
local macro_rules | `(tactic| walk_at "pd.g") => `(tactic| first
  | ((with_reducible show gd _ (Expr.Name "lines" _) _ _ _ _); refine gd_nm v_Store_read_lines sc_Store_read.nd ?_)
  | ((with_reducible show gv _ (Expr.Name "at" _) _ _ _ _ _); refine gv_nmCX (sc := defScope sStore_read) w_Store_read_at sc_Store_read.nd (by decide) ?_)
  | ((with_reducible show gv _ (Expr.Name "line" _) _ _ _ _ _); refine gv_nmCX (sc := defScope sStore_read) w_Store_read_line sc_Store_read.nd (by decide) ?_)
  | fail)
local macro_rules | `(tactic| walk_at "pd.call") => `(tactic| first
  | ((with_reducible show ed _ (Expr.Call (Expr.Name "cls" _) (_ :: _) _ _) _ _ _); refine ed_makeL v_Store_read_cls rfl (mk_Store_1 (by assumption)) (by assumption) (by decide) ?_)
  | ((with_reducible show ed _ (Expr.Call (Expr.Attribute _ "split" _) (_ :: _) _ _) _ _ _); with_reducible refine ed_bm PySem.F.plainAttrs_str PySem.F.slot_str_split PySem.F.type_str_split ?_)
  | ((with_reducible show ed _ (Expr.Call (Expr.Name "row_at" _) (_ :: _) _ _) _ _ _); refine ed_callC ((ok_row_at (by assumption)).at_ _) (by assumption) (by decide) (g_row_at (by assumption)) ?_ (hg := by first | exact glBX_of (sc := defScope sStore_read)))
  | fail)
local macro_rules | `(tactic| walk_at "pd.lc") => `(tactic| first
  | ((with_reducible show ed _ (Expr.ListComp _ [_] _ _) _ _ _); refine ed_lcX (own := [("at", 3), ("line", 4)]) [("at", 3), ("line", 4)] rfl rfl sc_Store_read.nd (blkOk_by (N := N_Store_read) (sc := defScope sStore_read) (by decide +kernel)) ?_)
  | fail)
local macro_rules | `(tactic| walk_at "pd.it") => `(tactic| first
  | ((with_reducible show eid _ _ (Expr.Call (Expr.Name "enumerate" _) [_] _ _) _ _ _); refine eid_enumS (b_enumerate (by assumption)) ?_ (hg := by first | exact gl_of gl_Store_read_enumerate | exact glBX_of (sc := defScope sStore_read)))
  | ((with_reducible show eid _ _ _ _ _ _); refine eid_of ?_)
  | fail)
theorem ok_Store_read (T : T0 w K mg) : CallF P w K mg base 8 (He5.wf K (He.ga K "Store") "classmethod" "read") 2 [] (spStoreReadX K) := by
  obtain ⟨fd, F⟩ := f_Store_read T
  refine CallF.mk0 (ps := ["cls", "text"]) F (fun _ _ _ _ _ _ us hl => match us, hl with | [_, _], _ => rfl) (fnD_of F sc_Store_read fun cdv A outer s H F0 μ ds Qd Ed hr hl h => ?_)
  obtain ⟨t, rfl, hlen, hll, hle, hE, hQ⟩ := h
  have hu0 := Nat.lt_of_le_of_lt (Nat.le_add_right _ 64) hr.units
  show sds _ _ (some (.ref (He.ga K "Store")) :: some (.str t) :: List.replicate 3 none) _ _
  refine sds_cut (fun δ' μ' => δ' = [some (.ref (He.ga K "Store")), some (.str t), some (.lst ((linesOf t).map .str)), none, none] ∧ μ' = μ) ?_ ?_
  · walk_at "pd"
    by_cases h : t = ""
    · rw [decide_eq_true h]
      refine iteFr rfl ?_
      walk_at "pd"
      unfold linesOf
      rw [if_pos h]
      exact ⟨rfl, rfl⟩
    · rw [decide_eq_false h]
      refine iteTr rfl ?_
      walk_at "pd"
      refine mtd_split (by decide) (small_le (by omega)) ?_
      unfold linesOf
      rw [if_neg h]
      exact ⟨rfl, rfl⟩
  rintro δ' μ' ⟨rfl, rfl⟩
  refine sds_cons ?_
  walk_at "pd"
  show eid _ _ _ _ _ _
  walk_at "pd"
  have hel : (enumD ((linesOf t).map D.str)).length = (linesOf t).length := by rw [enumD_len, List.length_map]
  refine ⟨by omega, fun i acc μ2 => ∃ rs : List Rw, ((linesOf t).take i).map readP = rs.map some ∧ acc = rwDs (He.ga K "Row") rs ∧ μ2 = μ', ⟨[], rfl, rfl, rfl⟩, fun i acc μ2 hi h => ⟨by obtain ⟨_, _, _, rfl⟩ := h; exact .lst _, ?_⟩, ?_, ?_⟩
  · obtain ⟨rs, h1, rfl, rfl⟩ := h
    have h2 := congrArg List.length h1
    rw [List.length_map, List.length_map, List.length_take] at h2
    rw [rwDs_len]
    omega
  · rintro i d acc μ2 hd ⟨rs, h1, rfl, rfl⟩
    obtain ⟨x, hx, rfl⟩ := enumD_get hd
    rw [List.getElem?_map] at hx
    obtain ⟨l, hl2, rfl⟩ : ∃ l, (linesOf t)[i]? = some l ∧ x = .str l := by
      cases h : (linesOf t)[i]? with
      | none => rw [h] at hx; cases hx
      | some l => rw [h] at hx; cases hx; exact ⟨l, rfl, rfl⟩
    walk_at "pd"
    refine ⟨l, i, rfl, hle l (List.mem_of_getElem? hl2), fun h G => ?_, fun r h => ?_⟩
    · refine hE i l hl2 h (fun l' hl' => ?_) G
      have h3 : readP l' ∈ ((linesOf t).take i).map readP := List.mem_map_of_mem hl'
      rw [h1] at h3
      obtain ⟨r, _, h4⟩ := List.mem_map.mp h3
      rw [← h4]; rfl
    · refine ⟨rs ++ [r], ?_, ?_, rfl⟩
      · rw [List.take_succ, hl2, List.map_append, List.map_append, h1]
        show _ ++ [readP l] = _
        rw [h]; rfl
      · unfold rwDs
        rw [List.map_append]; rfl
  · rintro acc μ2 ⟨rs, h1, rfl, rfl⟩
    rw [hel, List.take_length] at h1
    obtain ⟨hw, hq⟩ := hQ rs h1
    walk_at "pd"
    have h2 := congrArg List.length h1
    rw [List.length_map, List.length_map] at h2
    exact ⟨_, some rs, rfl, .good rs (.lst _) (by omega) hw, (fun h => nomatch h), fun rs' h => by cases h; exact hq⟩
end
end
section
variable {P : Program} {w : World} {K : PySem.W.Frag} {mg : Str → Option Value} {base : Heap}
/-! ### a row's own text is read; the lines of a text -/
theorem takeWhile_own {If Do : List Str} (hn : ∀ x ∈ If, x ≠ Str.ofString "do") (hd : Do = [] ∨ ∃ r, Do = Str.ofString "do" :: r) : (If ++ Do).takeWhile notDo = If ∧ (If ++ Do).dropWhile notDo = Do := by
  have h1 : ∀ x ∈ If, notDo x = true := fun x hx => decide_eq_true (hn x hx)
  rw [List.takeWhile_append_of_pos h1, List.dropWhile_append_of_pos h1]
  rcases hd with rfl | ⟨r, rfl⟩
  · exact ⟨List.append_nil _, rfl⟩
  · have h2 : ¬ notDo (Str.ofString "do") = true := by decide
    rw [List.takeWhile_cons_of_neg h2, List.dropWhile_cons_of_neg h2, List.append_nil]
    exact ⟨rfl, rfl⟩
theorem read_own {r : Rw} (G : r.ok) : readP r.txt = some r := by
  obtain ⟨k, ts, ws, a⟩ := r
  have G : RowG k ts ws a := G
  obtain ⟨If, Do, R⟩ := RT.words_of a G.fin
  have hd : Do = [] ∨ ∃ r, Do = Str.ofString "do" :: r := by
    rcases R.d with ⟨_, e⟩ | ⟨_, r, e, _⟩
    · exact .inl e
    · exact .inr ⟨r, e⟩
  obtain ⟨w1, w2⟩ := takeWhile_own R.nd hd
  have hrw : readW k (If ++ Do) (yesNo a) = some ⟨k, ts, ws, a⟩ := by
    have hy : yesNo a ∈ (["yes", "no"] : List Str) := by cases a <;> decide
    have hy2 : decide (yesNo a = "yes") = a := by cases a <;> decide
    unfold readW
    rw [if_pos hy, w1, w2, hy2]
    have c1 : ¬ (If ≠ [] ∧ If.headD "" ≠ Str.ofString "if") := by
      rintro ⟨n1, n2⟩
      rcases R.i with ⟨_, e⟩ | ⟨_, r, e, _⟩
      · exact n1 e
      · rw [e] at n2; exact n2 rfl
    have c2 : (if If = [] then [] else toldB (If.drop 1) "and") = ts := by
      rcases R.i with ⟨e1, e⟩ | ⟨_, r, e, h⟩
      · rw [if_pos e, e1]
      · rw [if_neg (by rw [e]; simp), e]; exact h
    have c3 : (if Str.ofString "do" ∈ If ++ Do then toldB (Do.drop 1) "then" else []) = ws := by
      rcases R.d with ⟨e1, e⟩ | ⟨_, r, e, h⟩
      · rw [if_neg (fun z => ?_), e1]
        rw [e, List.append_nil] at z
        exact R.nd _ z rfl
      · rw [if_pos (by rw [e]; simp), e]; exact h
    rw [if_neg c1, c2, c3, if_pos (G.good rfl rfl)]
  show readP (rowText k ts ws a) = _
  unfold readP
  rw [R.e]
  cases hm : If ++ Do ++ [yesNo a] with
  | nil => simp at hm
  | cons x rr =>
    show readW k ((x :: rr).dropLast) ((x :: rr).getLastD "") = _
    rw [← hm, List.dropLast_concat, List.getLastD_concat]
    exact hrw
theorem joinL_mem (S : List Nat) (c : Nat) : ∀ ps : List (List Nat), c ∈ TL.joinL S ps → c ∈ S ∨ ∃ p ∈ ps, c ∈ p
  | [], h => (List.not_mem_nil h).elim
  | [p], h => .inr ⟨p, List.mem_cons_self, h⟩
  | p :: q :: r, h => by
    rcases List.mem_append.mp (show c ∈ p ++ (S ++ TL.joinL S (q :: r)) from h) with h | h
    · exact .inr ⟨p, List.mem_cons_self, h⟩
    · rcases List.mem_append.mp h with h | h
      · exact .inl h
      · rcases joinL_mem S c (q :: r) h with h | ⟨p', h1, h2⟩
        · exact .inl h
        · exact .inr ⟨p', List.mem_cons_of_mem _ h1, h2⟩
theorem join_mem {z : Str} {ys : List Str} {c : Nat} (h : c ∈ TL.tl (Txt.join z ys)) : c ∈ TL.tl z ∨ ∃ y ∈ ys, c ∈ TL.tl y := by
  rw [TL.join_eq, TL.tl_join] at h
  rcases joinL_mem _ c _ h with h | ⟨p, hp, h⟩
  · exact .inl h
  · obtain ⟨y, hy, rfl⟩ := List.mem_map.mp hp
    exact .inr ⟨y, hy, h⟩
theorem tests_nl : ∀ t ∈ RT.allTests, 10 ∉ TL.tl t := by decide +kernel
theorem deeds_nl : ∀ t ∈ RT.allDeeds, 10 ∉ TL.tl t := by decide +kernel
theorem kinds_nl : ∀ t ∈ kindsL, 10 ∉ TL.tl t := by decide +kernel
theorem row_nl {r : Rw} (G : r.ok) : 10 ∉ TL.tl r.txt := by
  obtain ⟨k, ts, ws, a⟩ := r
  have G : RowG k ts ws a := G
  intro h
  rcases join_mem (show 10 ∈ TL.tl (Txt.join " " (rowWords k ts ws a)) from h) with h | ⟨y, hy, h⟩
  · exact absurd h (by decide)
  · unfold rowWords at hy
    rcases List.mem_append.mp hy with hy | hy
    · rcases List.mem_append.mp hy with hy | hy
      · rcases List.mem_append.mp hy with hy | hy
        · rw [List.mem_singleton.mp hy] at h
          exact kinds_nl k G.fin.k h
        · unfold ifPart at hy
          split at hy
          · exact List.not_mem_nil hy
          · rcases List.mem_cons.mp hy with rfl | hy
            · exact absurd h (by decide)
            · rw [List.mem_singleton.mp hy] at h
              rcases join_mem h with h | ⟨t, ht, h⟩
              · exact absurd h (by decide)
              · exact tests_nl t (G.fin.t t ht) h
      · unfold doPart at hy
        split at hy
        · exact List.not_mem_nil hy
        · rcases List.mem_cons.mp hy with rfl | hy
          · exact absurd h (by decide)
          · rw [List.mem_singleton.mp hy] at h
            rcases join_mem h with h | ⟨t, ht, h⟩
            · exact absurd h (by decide)
            · exact deeds_nl t (G.fin.d t ht) h
    · rw [List.mem_singleton.mp hy] at h
      revert h
      cases a <;> decide
theorem split_nl {ls : List Str} (hne : ls ≠ []) (h : ∀ l ∈ ls, 10 ∉ TL.tl l) : Txt.split (Txt.join "\n" ls) "\n" = ls :=
  TL.split_join (y := "\n") (s := 10) (S := []) rfl (by decide +kernel) hne h
theorem linesOf_join {ls : List Str} (hne : ls ≠ []) (h : ∀ l ∈ ls, 10 ∉ TL.tl l) (h0 : ls ≠ [Str.ofString ""]) : linesOf (Txt.join "\n" ls) = ls := by
  have hs := split_nl hne h
  unfold linesOf
  rw [if_neg (fun e => ?_), hs]
  rw [e] at hs
  exact h0 (by rw [← hs]; decide)
theorem row_ne {r : Rw} (G : r.ok) : r.txt ≠ Str.ofString "" := fun e => by
  have h := read_own G
  rw [e] at h
  exact absurd h (by rw [show readP (Str.ofString "") = none by decide]; exact fun h => nomatch h)
/-- all lines are rows -/
theorem lines_all {rs : List Rw} (h : ∀ r ∈ rs, r.ok) : (rs.map Rw.txt).map readP = rs.map some := by
  rw [List.map_map]
  exact List.map_congr_left fun r hr => read_own (h r hr)
theorem join_mapS (w : Str) (l : List Str) : TL.tl (Txt.join w l) = TL.joinL (TL.tl w) (l.map TL.tl) := by rw [TL.join_eq, TL.tl_join]
theorem joinL_len (S : RT.W) : ∀ {ps : List RT.W}, ps ≠ [] → (TL.joinL S ps).length + S.length = (ps.map List.length).sum + ps.length * S.length
  | [], h => absurd rfl h
  | [p], _ => by show p.length + S.length = p.length + 0 + 1 * S.length; omega
  | p :: q :: r, _ => by
    have ih := joinL_len S (ps := q :: r) (by simp)
    show (p ++ (S ++ TL.joinL S (q :: r))).length + S.length = p.length + ((q :: r).map List.length).sum + ((q :: r).length + 1) * S.length
    rw [List.length_append, List.length_append, Nat.add_mul]
    omega
theorem join_le {w : Str} {l : List Str} {n c : Nat} (hne : l ≠ []) (h : ∀ u ∈ l, u.length ≤ n) (hc : l.length ≤ c) : (Txt.join w l).length + w.length ≤ c * n + c * w.length := by
  have h1 := joinL_len (TL.tl w) (ps := l.map TL.tl) (by simpa using hne)
  rw [← join_mapS, ← TL.len_tl, ← TL.len_tl, List.map_map, List.length_map] at h1
  have h2 : ((l.map (List.length ∘ TL.tl))).sum ≤ l.length * n := by
    clear h1 hc hne
    induction l with
    | nil => simp
    | cons x l ih =>
      have := ih fun u hu => h u (List.mem_cons_of_mem _ hu)
      have h3 := h x List.mem_cons_self
      rw [TL.len_tl] at h3
      rw [List.map_cons, List.sum_cons, List.length_cons, Nat.add_mul]
      show (TL.tl x).length + _ ≤ _
      omega
  have h3 := Nat.mul_le_mul_right n hc
  have h4 := Nat.mul_le_mul_right w.length hc
  omega
end
section
variable {P : Program} {w : World} {K : PySem.W.Frag} {mg : Str → Option Value} {base : Heap}
/-! ### drawn tests and deeds -/
def testsS (k : Str) : List Str := if k = "join" then ["loser points", "winner points", "loser struck", "winner struck"] else ["points", "points", "struck"]
theorem testsS_ok {k t : Str} (h : t ∈ testsS k) : t ∈ testsOf k := by
  unfold testsS at h
  unfold testsOf
  split at h
  · rename_i e; rw [if_pos e]; revert t; decide
  · rename_i e; rw [if_neg e]; revert t; decide
theorem testsS_ne (k : Str) : (testsS k).map D.str ≠ [] ∧ ((testsS k).map D.str).length < 1000000 := by
  unfold testsS; split <;> exact ⟨by simp, by decide⟩
def spDTests : SpD := fun ds μ Q _ => ∃ p q μr k, ds = [.ref p, .str k] ∧ Deal p q μr μ ∧ ∀ (ts : List Str) μ', ts.length ≤ 2 → (∀ t ∈ ts, TestOk k t) → Deal p q μr μ' → Q (.lst (ts.map .str)) μ'
section
abbrev N_tests : List Str := ["_law_deal_here", "_law_kind", "_law_some", "_law_found", "_law_turn"]
theorem sc_tests : FnScope N_tests ["_law_deal_here", "_law_kind"] (defScope stests) := ⟨rfl, rfl, rfl, by decide +kernel, rfl, by decide +kernel, by decide +kernel⟩
theorem v_tests_deal_here : Nm N_tests (defScope stests) 0 "_law_deal_here" := ⟨rfl, by decide +kernel, by decide +kernel, by decide +kernel⟩
theorem v_tests_kind : Nm N_tests (defScope stests) 1 "_law_kind" := ⟨rfl, by decide +kernel, by decide +kernel, by decide +kernel⟩
theorem v_tests_some : Nm N_tests (defScope stests) 2 "_law_some" := ⟨rfl, by decide +kernel, by decide +kernel, by decide +kernel⟩
theorem v_tests_found : Nm N_tests (defScope stests) 3 "_law_found" := ⟨rfl, by decide +kernel, by decide +kernel, by decide +kernel⟩
theorem v_tests_turn : Nm N_tests (defScope stests) 4 "_law_turn" := ⟨rfl, by decide +kernel, by decide +kernel, by decide +kernel⟩
theorem gl_tests_draw : (defScope stests).names.lookup ("_law_draw" : Str) = some .globalImplicit := by decide +kernel
theorem gl_tests_pick : (defScope stests).names.lookup ("_law_pick" : Str) = some .globalImplicit := by decide +kernel
theorem gl_tests_range : (defScope stests).names.lookup ("range" : Str) = some .globalImplicit := by decide +kernel
local macro_rules | `(tactic| walk_at "pd.nm") => `(tactic| first
  | ((with_reducible show ed _ (Expr.Name "_law_deal_here" _) _ _ _); first | refine ed_nm v_tests_deal_here rfl ?_ | refine ed_nmB (sc := defScope stests) v_tests_deal_here rfl ?_)
  | ((with_reducible show ed _ (Expr.Name "_law_kind" _) _ _ _); first | refine ed_nm v_tests_kind rfl ?_ | refine ed_nmB (sc := defScope stests) v_tests_kind rfl ?_)
  | ((with_reducible show ed _ (Expr.Name "_law_some" _) _ _ _); first | refine ed_nm v_tests_some rfl ?_ | refine ed_nmB (sc := defScope stests) v_tests_some rfl ?_)
  | ((with_reducible show ed _ (Expr.Name "_law_found" _) _ _ _); first | refine ed_nm v_tests_found rfl ?_ | refine ed_nmB (sc := defScope stests) v_tests_found rfl ?_)
  | ((with_reducible show ed _ (Expr.Name "_law_turn" _) _ _ _); first | refine ed_nm v_tests_turn rfl ?_ | refine ed_nmB (sc := defScope stests) v_tests_turn rfl ?_)
  | ((with_reducible show ed _ (Expr.Name "range" _) _ _ _); refine ed_ty (n := "range") (b_range (by assumption)) bb_range ?_ (hg := by first | exact gl_of gl_tests_range))
  | fail)
local macro_rules | `(tactic| walk_at "pd.set") => `(tactic| first
  | ((with_reducible show sd _ (Stmt.Assign [Expr.Name "_law_some" _] _ _) _ _ _); refine sd_nm v_tests_some sc_tests.nd ?_)
  | ((with_reducible show sd _ (Stmt.Assign [Expr.Name "_law_found" _] _ _) _ _ _); refine sd_nm v_tests_found sc_tests.nd ?_)
  | ((with_reducible show sd _ (Stmt.Assign [Expr.Name "_law_turn" _] _ _) _ _ _); refine sd_nm v_tests_turn sc_tests.nd ?_)
  | fail)
local macro_rules | `(tactic| walk_at "pd.g") => `(tactic| first
  | ((with_reducible show gd _ (Expr.Name "_law_some" _) _ _ _ _); refine gd_nm v_tests_some sc_tests.nd ?_)
  | ((with_reducible show gd _ (Expr.Name "_law_found" _) _ _ _ _); refine gd_nm v_tests_found sc_tests.nd ?_)
  | ((with_reducible show gd _ (Expr.Name "_law_turn" _) _ _ _ _); refine gd_nm v_tests_turn sc_tests.nd ?_)
  | fail)
local macro_rules | `(tactic| walk_at "pd.call") => `(tactic| first
  | ((with_reducible show ed _ (Expr.Call (Expr.Name "_law_draw" _) (_ :: _) _ _) _ _ _); refine ed_callC ((ok_draw (by assumption)).at_ _) (by assumption) (by decide) (g_draw (by assumption)) ?_ (hg := by first | exact gl_of gl_tests_draw))
  | ((with_reducible show ed _ (Expr.Call (Expr.Attribute _ "append" _) (_ :: _) _ _) _ _ _); with_reducible refine ed_bm PySem.F.plainAttrs_list PySem.F.slot_list_append PySem.F.type_list_append ?_)
  | ((with_reducible show ed _ (Expr.Call (Expr.Name "_law_pick" _) (_ :: _) _ _) _ _ _); refine ed_callC ((ok_pick (by assumption)).at_ _) (by assumption) (by decide) (g_pick (by assumption)) ?_ (hg := by first | exact gl_of gl_tests_pick))
  | fail)
local macro_rules | `(tactic| walk_at "pd.it") => `(tactic| first
  | ((with_reducible show eid _ _ (Expr.Call (Expr.Name "range" _) [_] _ _) _ _ _); refine eid_range (b_range (by assumption)) ?_ (hg := by first | exact gl_of gl_tests_range))
  | ((with_reducible show eid _ _ (Expr.Call (Expr.Name "range" _) [_, _] _ _) _ _ _); refine eid_range2 (b_range (by assumption)) ?_ (hg := by first | exact gl_of gl_tests_range))
  | ((with_reducible show eid _ _ _ _ _ _); refine eid_of ?_)
  | fail)
local macro_rules | `(tactic| walk_at "pd.lst") => `(tactic| ((with_reducible show ed _ (Expr.List [] _) _ _ _); refine ed_lstO ?_))
theorem ok_tests (T : T0 w K mg) : CallD P w K mg base 3 (He.ga K "_law_tests") 2 [] spDTests := by
  obtain ⟨fd, F⟩ := f_tests T
  refine CallD.mk0 (ps := ["_law_deal_here", "_law_kind"]) F (fun _ _ _ _ _ _ us hl => match us, hl with | [_, _], _ => rfl) (fnD_of F sc_tests fun cdv A outer s H F0 μ ds Qd Ed hr hl h => ?_)
  obtain ⟨p, q, μr, k, rfl, hD, kk⟩ := h
  have hu := hr.units
  show sds _ _ [some (.ref p), some (.str k), none, none, none] _ _
  refine sds_cons ?_
  walk_at "pdS"
  refine sds_cut (fun δ' μ' => δ' = [some (.ref p), some (.str k), some (.lst ((testsS k).map .str)), none, none] ∧ μ' = μ) ?_ ?_
  · walk_at "pd"
    refine ifd (fun h1 => ?_) (fun h1 => ?_)
    · walk_at "pd"
      unfold testsS
      rw [if_pos h1]
      exact ⟨rfl, rfl⟩
    · walk_at "pd"
      unfold testsS
      rw [if_neg h1]
      exact ⟨rfl, rfl⟩
  rintro δ' μ' ⟨rfl, rfl⟩
  obtain ⟨l, m, hL, rfl⟩ := hD
  refine sds_cons ?_
  walk_at "pdS"
  intro g
  refine sds_mu (dealM p q l m ++ (g, .lst []) :: μr) List.perm_middle.symm ?_
  refine sds_cons ?_
  refine sd_for rfl ?_
  walk_at "pd"
  refine ⟨p, q, _, _, rfl, ⟨l, m, hL, rfl⟩, by decide, by decide, fun n μ1 n0 n1 hD1 => ?_⟩
  walk_at "pd"
  refine ⟨n, rfl, by omega, by omega, fun i δ' μ' => ∃ (ts : List Str) (x : Option D), δ' = [some (.ref p), some (.str k), some (.lst ((testsS k).map .str)), some (.ref g), x] ∧ Deal p q ((g, .lst (ts.map .str)) :: μr) μ' ∧ ts.length = i ∧ ∀ t ∈ ts, TestOk k t, ⟨[], _, rfl, hD1, rfl, fun _ h => (List.not_mem_nil h).elim⟩, fun _ _ _ _ _ => trivial, ?_, ?_⟩
  · rintro i d δ' μ' hd ⟨ts, x, rfl, ⟨l1, m1, hL1, rfl⟩, hl2, hts⟩
    have hi : i < n.toNat := by
      have := (List.getElem?_eq_some_iff.mp hd).1
      rw [List.length_map, List.length_range] at this
      exact this
    walk_at "pd"
    refine ⟨p, q, _, _, _, rfl, .inl rfl, ⟨l1, m1, hL1, rfl⟩, by simp, by decide, fun d1 hd1 μ2 hD3 => ?_⟩
    obtain ⟨s1, hs1, rfl⟩ := List.mem_map.mp (show d1 ∈ (["", "not "] : List Str).map D.str from hd1)
    walk_at "pd"
    refine ⟨p, q, _, _, _, rfl, .inl rfl, hD3, (testsS_ne k).1, (testsS_ne k).2, fun d2 hd2 μ3 hD4 => ?_⟩
    obtain ⟨s2, hs2, rfl⟩ := List.mem_map.mp hd2
    have l2 := testsOf_len (testsS_ok hs2)
    have l1 := (show ∀ s1 ∈ (["", "not "] : List Str), s1.length ≤ 4 by decide) s1 hs1
    walk_at "pd"
    refine opd_addS (small_le (by omega)) ?_
    obtain ⟨l2, m2, hL2, rfl⟩ := hD4
    walk_at "pd"
    refine mtd_append (μ1 := dealM p q l2 m2) (small_lt (by rw [List.length_map]; omega)) ?_
    walk_at "pd"
    refine ⟨ts ++ [s1 ++ s2], _, rfl, ⟨l2, m2, hL2, by rw [List.map_append]; rfl⟩, by simp; omega, fun t ht => ?_⟩
    rcases List.mem_append.mp ht with h | h
    · exact hts t h
    · rw [List.mem_singleton.mp h]
      rcases List.mem_cons.mp hs1 with rfl | hs1
      · have e : (Str.ofString "" ++ s2) = s2 := by
          obtain ⟨c⟩ := s2
          show Str.mk (#[] ++ c) = Str.mk c
          simp
        rw [e]
        exact .inl (testsS_ok hs2)
      · rw [List.mem_singleton.mp hs1]
        exact .inr ⟨s2, testsS_ok hs2, rfl⟩
  · rintro δ' μ' ⟨ts, x, rfl, ⟨l2, m2, hL2, rfl⟩, hl2, hts⟩
    rw [List.length_map, List.length_range] at hl2
    refine sds_freeze_lst (μ1 := dealM p q l2 m2) (i := 3) rfl ?_
    walk_at "pd"
    exact kk ts _ (by omega) hts ⟨l2, m2, hL2, rfl⟩
end
def deedsS (k : Str) : List Str := if k = "new" then ["list", "lead", "sign"] else if k = "sweep" then ["bare", "empty", "strike", "wake", "forget"] else if k = "back" then ["recall", "recall", "bare", "forget", "empty", "strike", "wake"] else ["move", "move", "note", "mark", "point", "point", "turn", "bare", "strike", "wake", "empty"]
theorem deedsS_ok : ∀ k ∈ kindsL, ∀ t ∈ deedsS k, t ∈ deedsOf k := by decide +kernel
theorem deedsS_ne (k : Str) : (deedsS k).map D.str ≠ [] ∧ ((deedsS k).map D.str).length < 1000000 := by
  unfold deedsS
  split
  · exact ⟨by simp, by decide⟩
  · split
    · exact ⟨by simp, by decide⟩
    · split <;> exact ⟨by simp, by decide⟩
def deedsY : Dic := [(.inr "new", .lst ((["list", "lead", "sign"] : List Str).map .str)), (.inr "sweep", .lst ((["bare", "empty", "strike", "wake", "forget"] : List Str).map .str)), (.inr "back", .lst ((["recall", "recall", "bare", "forget", "empty", "strike", "wake"] : List Str).map .str)), (.inr "join", .lst ((["move", "move", "note", "mark", "point", "point", "turn", "bare", "strike", "wake", "empty"] : List Str).map .str))]
theorem deedsY_at : ∀ k ∈ kindsL, valY deedsY (.inr k) = some (.lst ((deedsS k).map .str)) := by
  intro k hk
  unfold kindsL at hk
  rcases List.mem_cons.mp hk with rfl | hk
  · rfl
  rcases List.mem_cons.mp hk with rfl | hk
  · rfl
  rcases List.mem_cons.mp hk with rfl | hk
  · rfl
  rw [List.mem_singleton.mp hk]
  rfl
end
section
variable {P : Program} {w : World} {K : PySem.W.Frag} {mg : Str → Option Value} {base : Heap}
def spDDeeds : SpD := fun ds μ Q _ => ∃ p q μr k, ds = [.ref p, .str k] ∧ Deal p q μr μ ∧ k ∈ kindsL ∧ ∀ (ws : List Str) μ', ws.length ≤ 4 → (∀ d ∈ ws, d ∈ deedsOf k) → Deal p q μr μ' → Q (.lst (ws.map .str)) μ'
section
abbrev N_deeds : List Str := ["_law_deal_here", "_law_kind", "_law_some", "_law_turn"]
theorem sc_deeds : FnScope N_deeds ["_law_deal_here", "_law_kind"] (defScope sdeeds) := ⟨rfl, rfl, rfl, by decide +kernel, rfl, by decide +kernel, by decide +kernel⟩
theorem v_deeds_deal_here : Nm N_deeds (defScope sdeeds) 0 "_law_deal_here" := ⟨rfl, by decide +kernel, by decide +kernel, by decide +kernel⟩
theorem v_deeds_kind : Nm N_deeds (defScope sdeeds) 1 "_law_kind" := ⟨rfl, by decide +kernel, by decide +kernel, by decide +kernel⟩
theorem v_deeds_some : Nm N_deeds (defScope sdeeds) 2 "_law_some" := ⟨rfl, by decide +kernel, by decide +kernel, by decide +kernel⟩
theorem w_deeds_turn : NmB N_deeds 3 "_law_turn" := ⟨rfl, by decide +kernel, by decide +kernel⟩
theorem gl_deeds_draw : (defScope sdeeds).names.lookup ("_law_draw" : Str) = some .globalImplicit := by decide +kernel
theorem gl_deeds_range : (defScope sdeeds).names.lookup ("range" : Str) = some .globalImplicit := by decide +kernel
-- _law_some is a cell
local macro_rules | `(tactic| walk_at "pd.nm") => `(tactic| first
  | ((with_reducible show ed _ (Expr.Name "_law_deal_here" _) _ _ _); first | refine ed_nm v_deeds_deal_here rfl ?_ | refine ed_nmB (sc := defScope sdeeds) v_deeds_deal_here rfl ?_)
  | ((with_reducible show ed _ (Expr.Name "_law_kind" _) _ _ _); first | refine ed_nm v_deeds_kind rfl ?_ | refine ed_nmB (sc := defScope sdeeds) v_deeds_kind rfl ?_)
  | ((with_reducible show ed _ (Expr.Name "_law_some" _) _ _ _); first | refine ed_nm v_deeds_some rfl ?_ | refine ed_nmB (sc := defScope sdeeds) v_deeds_some rfl ?_)
  | ((with_reducible show ed _ (Expr.Name "_law_turn" _) _ _ _); refine ed_nmC (sc := defScope sdeeds) w_deeds_turn rfl ?_)
  | ((with_reducible show ed _ (Expr.Name "range" _) _ _ _); refine ed_ty (n := "range") (b_range (by assumption)) bb_range ?_ (hg := by first | exact gl_of gl_deeds_range | exact glB_of (sc := defScope sdeeds)))
  | fail)
local macro_rules | `(tactic| walk_at "pd.set") => `(tactic| first
  | ((with_reducible show sd _ (Stmt.Assign [Expr.Name "_law_some" _] _ _) _ _ _); refine sd_nm v_deeds_some sc_deeds.nd ?_)
  | fail)
local macro_rules | `(tactic| walk_at "pd.g") => `(tactic| first
  | ((with_reducible show gd _ (Expr.Name "_law_some" _) _ _ _ _); refine gd_nm v_deeds_some sc_deeds.nd ?_)
  | ((with_reducible show gv _ (Expr.Name "_law_turn" _) _ _ _ _ _); refine gv_nmC (sc := defScope sdeeds) w_deeds_turn sc_deeds.nd (by decide) ?_)
  | fail)
local macro_rules | `(tactic| walk_at "pd.call") => `(tactic| first
  | ((with_reducible show ed _ (Expr.Call (Expr.Name "_law_pick" _) (_ :: _) _ _) _ _ _); refine ed_callC ((ok_pick (by assumption)).at_ _) (by assumption) (by decide) (g_pick (by assumption)) ?_ (hg := by first | exact glB_of (sc := defScope sdeeds)))
  | ((with_reducible show ed _ (Expr.Call (Expr.Name "_law_draw" _) (_ :: _) _ _) _ _ _); refine ed_callC ((ok_draw (by assumption)).at_ _) (by assumption) (by decide) (g_draw (by assumption)) ?_ (hg := by first | exact gl_of gl_deeds_draw | exact glB_of (sc := defScope sdeeds)))
  | fail)
local macro_rules | `(tactic| walk_at "pd.lc") => `(tactic| first
  | ((with_reducible show ed _ (Expr.ListComp _ [_] _ _) _ _ _); refine ed_lc (own := [("_law_turn", 3)]) [("_law_turn", 3)] rfl rfl sc_deeds.nd (blkOk_by (N := N_deeds) (sc := defScope sdeeds) (by decide +kernel)) ?_)
  | fail)
local macro_rules | `(tactic| walk_at "pd.it") => `(tactic| first
  | ((with_reducible show eid _ _ (Expr.Call (Expr.Name "range" _) [_] _ _) _ _ _); refine eid_range (b_range (by assumption)) ?_ (hg := by first | exact gl_of gl_deeds_range | exact glB_of (sc := defScope sdeeds)))
  | ((with_reducible show eid _ _ (Expr.Call (Expr.Name "range" _) [_, _] _ _) _ _ _); refine eid_range2 (b_range (by assumption)) ?_ (hg := by first | exact gl_of gl_deeds_range | exact glB_of (sc := defScope sdeeds)))
  | ((with_reducible show eid _ _ _ _ _ _); refine eid_of ?_)
  | fail)
local macro_rules | `(tactic| walk_at "pd.gd") => `(tactic| ((with_reducible show gd _ (Expr.Subscript _ _ _) _ _ _ _); refine gd_sub ?_))
theorem ok_deeds (T : T0 w K mg) : CallD P w K mg base 3 (He.ga K "_law_deeds") 2 [] spDDeeds := by
  obtain ⟨fd, F⟩ := f_deeds T
  refine CallD.mk0 (ps := ["_law_deal_here", "_law_kind"]) F (fun _ _ _ _ _ _ us hl => match us, hl with | [_, _], _ => rfl) (fnD_of F sc_deeds fun cdv A outer s H F0 μ ds Qd Ed hr hl h => ?_)
  obtain ⟨p, q, μr, k, rfl, hD, hk, kk⟩ := h
  have hu := hr.units
  have hu0' := Nat.lt_of_le_of_lt (Nat.add_le_add_left (show 1 ≤ 64 by decide) _) hr.units
  show sds _ _ [some (.ref p), some (.str k), none, none] _ _
  refine sds_cons ?_
  with_reducible refine sd_nm v_deeds_some sc_deeds.nd ?a0 (hs := ?a1) (hf := ?a2) (e := ?a3) (e2 := ?a4)
  case a1 => rfl
  case a2 => rfl
  case a3 => rfl
  case a4 => rfl
  with_reducible refine ed_disp ?b0 (hall := ?b1) (hl := ?b2) (h0 := List.cons_ne_nil _ _) (h15 := ?b3)
  case b1 => rfl
  case b2 => rfl
  case b3 => exact Nat.le_of_ble_eq_true rfl
  intro pd
  refine edp_cons ?_
  walk_at "pd"
  refine ⟨.inr "new", rfl, ?_⟩
  walk_at "pd"
  refine edp_cons ?_
  walk_at "pd"
  refine ⟨.inr "sweep", rfl, ?_⟩
  walk_at "pd"
  refine edp_nil ?_
  refine ⟨[], _, rfl, ?_⟩
  have em : mergeY [(.inr "new", D.lst [D.str "list", D.str "lead", D.str "sign"]), (.inr "sweep", D.lst [D.str "bare", D.str "empty", D.str "strike", D.str "wake", D.str "forget"])] = [(.inr "new", D.lst [D.str "list", D.str "lead", D.str "sign"]), (.inr "sweep", D.lst [D.str "bare", D.str "empty", D.str "strike", D.str "wake", D.str "forget"])] := by
    unfold mergeY
    rw [List.foldl_cons, List.foldl_cons, List.foldl_nil]
    rw [putY_new (kvs := []) (by simp), PD.putY_new (by rw [List.nil_append, List.map_singleton, List.mem_singleton]; decide)]
    rfl
  rw [em]
  clear em
  show sds _ _ _ ((pd, dic _) :: μ) _
  refine sds_cons ?_
  walk_at "pd"
  refine std_Y (μ1 := []) (k := .inr "back") hu0' ?hl ?_
  case hl => show 2 < sizeLine; rw [sizeLine_eq]; omega
  rw [PD.putY_new (by show ¬ (_ ∈ [_, _]); rw [List.mem_cons, List.mem_singleton]; decide)]
  walk_at "pd"
  refine std_Y (μ1 := []) (k := .inr "join") hu0' ?hl ?_
  case hl => show 3 < sizeLine; rw [sizeLine_eq]; omega
  rw [PD.putY_new (by show ¬ (_ ∈ [_, _, _]); rw [List.mem_cons, List.mem_cons, List.mem_singleton]; decide)]
  show sds _ _ _ ((pd, dic deedsY) :: μ) _
  obtain ⟨l, m, hL, rfl⟩ := hD
  refine sds_mu (dealM p q l m ++ (pd, dic deedsY) :: μr) List.perm_middle.symm ?_
  have hD0 : Deal p q ((pd, dic deedsY) :: μr) (dealM p q l m ++ (pd, dic deedsY) :: μr) := ⟨l, m, hL, rfl⟩
  generalize dealM p q l m ++ (pd, dic deedsY) :: μr = μ0 at hD0 ⊢
  refine sds_cons ?_
  refine sd_ret (ed_drop ?_)
  walk_at "pd"
  refine lcd_all (Deal p q ((pd, dic deedsY) :: μr)) (fun r => ∃ t, r = .str t ∧ t ∈ deedsOf k) ?_
  walk_at "pd"
  refine ⟨p, q, _, _, rfl, hD0, by omega, by omega, fun r μ2 r0 r1 hD2 => ?_⟩
  walk_at "pd"
  refine ⟨r, rfl, by omega, by omega, by rw [List.length_map, List.length_range]; omega, hD2, fun _ _ => trivial, fun d hd μ3 hD3 => ?_, fun acc μ3 hacc hlen hD3 => ?_⟩
  · obtain ⟨l3, m3, hL3, rfl⟩ := hD3
    walk_at "pd"
    refine ixd_Y (k := .inr k) (kvs := deedsY) hu0' (.inl (by simp)) (deedsY_at k hk) ?_
    walk_at "pd"
    refine ⟨p, q, _, _, _, rfl, .inl rfl, ⟨l3, m3, hL3, rfl⟩, (deedsS_ne k).1, (deedsS_ne k).2, fun d' hd' μ4 hD4 => ⟨?_, hD4⟩⟩
    obtain ⟨t, ht, rfl⟩ := List.mem_map.mp hd'
    exact ⟨t, rfl, deedsS_ok k hk t ht⟩
  · rw [List.length_map, List.length_range] at hlen
    obtain ⟨ws, rfl, hws, hl4⟩ := strs_of hacc
    rw [List.length_map] at hlen
    obtain ⟨l3, m3, hL3, rfl⟩ := hD3
    exact ⟨dealM p q l3 m3, _, μr, rfl, kk ws _ (by omega) hws ⟨l3, m3, hL3, rfl⟩⟩
end
end
section
variable {P : Program} {w : World} {K : PySem.W.Frag} {mg : Str → Option Value} {base : Heap}
/-! ### a drawn row -/
def spDRow : SpD := fun ds μ Q _ => ∃ p q μr, ds = [.ref p] ∧ Deal p q μr μ ∧ ∀ (k : Str) (ts ws : List Str) (a : Bool) μ', RowOk k ts ws a → ts.length ≤ 2 → ws.length ≤ 4 → Deal p q μr μ' → Q (rowTup k ts ws a) μ'
section
abbrev N_row : List Str := ["_law_deal_here", "_law_kind", "_law_deeds_here"]
theorem sc_row : FnScope N_row ["_law_deal_here"] (defScope srow) := ⟨rfl, rfl, rfl, by decide +kernel, rfl, by decide +kernel, by decide +kernel⟩
theorem v_row_deal_here : Nm N_row (defScope srow) 0 "_law_deal_here" := ⟨rfl, by decide +kernel, by decide +kernel, by decide +kernel⟩
theorem v_row_kind : Nm N_row (defScope srow) 1 "_law_kind" := ⟨rfl, by decide +kernel, by decide +kernel, by decide +kernel⟩
theorem v_row_deeds_here : Nm N_row (defScope srow) 2 "_law_deeds_here" := ⟨rfl, by decide +kernel, by decide +kernel, by decide +kernel⟩
theorem gl_row_deeds : (defScope srow).names.lookup ("_law_deeds" : Str) = some .globalImplicit := by decide +kernel
theorem gl_row_draw : (defScope srow).names.lookup ("_law_draw" : Str) = some .globalImplicit := by decide +kernel
theorem gl_row_pick : (defScope srow).names.lookup ("_law_pick" : Str) = some .globalImplicit := by decide +kernel
theorem gl_row_tests : (defScope srow).names.lookup ("_law_tests" : Str) = some .globalImplicit := by decide +kernel
local macro_rules | `(tactic| walk_at "pd.nm") => `(tactic| first
  | ((with_reducible show ed _ (Expr.Name "_law_deal_here" _) _ _ _); first | refine ed_nm v_row_deal_here rfl ?_ | refine ed_nmB (sc := defScope srow) v_row_deal_here rfl ?_)
  | ((with_reducible show ed _ (Expr.Name "_law_kind" _) _ _ _); first | refine ed_nm v_row_kind rfl ?_ | refine ed_nmB (sc := defScope srow) v_row_kind rfl ?_)
  | ((with_reducible show ed _ (Expr.Name "_law_deeds_here" _) _ _ _); first | refine ed_nm v_row_deeds_here rfl ?_ | refine ed_nmB (sc := defScope srow) v_row_deeds_here rfl ?_)
  | fail)
local macro_rules | `(tactic| walk_at "pd.set") => `(tactic| first
  | ((with_reducible show sd _ (Stmt.Assign [Expr.Name "_law_kind" _] _ _) _ _ _); refine sd_nm v_row_kind sc_row.nd ?_)
  | ((with_reducible show sd _ (Stmt.Assign [Expr.Name "_law_deeds_here" _] _ _) _ _ _); refine sd_nm v_row_deeds_here sc_row.nd ?_)
  | fail)
local macro_rules | `(tactic| walk_at "pd.g") => `(tactic| first
  | ((with_reducible show gd _ (Expr.Name "_law_kind" _) _ _ _ _); refine gd_nm v_row_kind sc_row.nd ?_)
  | ((with_reducible show gd _ (Expr.Name "_law_deeds_here" _) _ _ _ _); refine gd_nm v_row_deeds_here sc_row.nd ?_)
  | fail)
local macro_rules | `(tactic| walk_at "pd.call") => `(tactic| first
  | ((with_reducible show ed _ (Expr.Call (Expr.Name "_law_pick" _) (_ :: _) _ _) _ _ _); refine ed_callC ((ok_pick (by assumption)).at_ _) (by assumption) (by decide) (g_pick (by assumption)) ?_ (hg := by first | exact gl_of gl_row_pick))
  | ((with_reducible show ed _ (Expr.Call (Expr.Name "_law_deeds" _) (_ :: _) _ _) _ _ _); refine ed_callC ((ok_deeds (by assumption)).at_ _) (by assumption) (by decide) (g_deeds (by assumption)) ?_ (hg := by first | exact gl_of gl_row_deeds))
  | ((with_reducible show ed _ (Expr.Call (Expr.Name "_law_tests" _) (_ :: _) _ _) _ _ _); refine ed_callC ((ok_tests (by assumption)).at_ _) (by assumption) (by decide) (g_tests (by assumption)) ?_ (hg := by first | exact gl_of gl_row_tests))
  | ((with_reducible show ed _ (Expr.Call (Expr.Name "_law_draw" _) (_ :: _) _ _) _ _ _); refine ed_callC ((ok_draw (by assumption)).at_ _) (by assumption) (by decide) (g_draw (by assumption)) ?_ (hg := by first | exact gl_of gl_row_draw))
  | fail)
local macro_rules | `(tactic| walk_at "pd.it") => `(tactic| first
  | ((with_reducible show eid _ _ _ _ _ _); refine eid_of ?_)
  | fail)
theorem ok_row (T : T0 w K mg) : CallD P w K mg base 4 (He.ga K "_law_row") 1 [] spDRow := by
  obtain ⟨fd, F⟩ := f_row T
  refine CallD.mk0 (ps := ["_law_deal_here"]) F (fun _ _ _ _ _ _ us hl => match us, hl with | [_], _ => rfl) (fnD_of F sc_row fun cdv A outer s H F0 μ ds Qd Ed hr hl h => ?_)
  obtain ⟨p, q, μr, rfl, hD, kk⟩ := h
  have hu := hr.units
  show sds _ _ [some (.ref p), none, none] _ _
  refine sds_cons ?_
  walk_at "pd"
  refine ⟨p, q, μr, _, _, rfl, Or.inl rfl, hD, by simp, by decide, fun d hd μ1 hD1 => ?_⟩
  obtain ⟨k, hk, rfl⟩ := List.mem_map.mp (show d ∈ (["new", "join", "join", "back", "back", "sweep"] : List Str).map D.str from hd)
  have hkd : k ∈ kindsL := by
    revert hk; unfold kindsL; simp only [List.mem_cons, List.mem_nil_iff, or_false]
    rintro (h | h | h | h | h | h) <;> simp [h]
  walk_at "pd"
  refine ⟨p, q, μr, k, rfl, hD1, hkd, fun ws μ2 hwl hws hD2 => ?_⟩
  walk_at "pd"
  refine ⟨p, q, μr, k, rfl, hD2, fun ts μ3 htl hts hD3 => ?_⟩
  walk_at "pd"
  refine opd_neNil (Nat.lt_of_le_of_lt (Nat.le_add_right _ 64) hr.units) ?_
  cases ws with
  | nil =>
    refine ⟨false, rfl, ?_⟩
    rw [if_neg (by decide)]
    walk_at "pd"
    refine ⟨p, q, μr, _, rfl, hD3, by decide, by decide, fun r μ4 r0 r1 hD4 => ?_⟩
    walk_at "pd"
    exact kk k ts [] _ _ ⟨hkd, hts, fun _ z => (List.not_mem_nil z).elim, fun _ => rfl⟩ htl (Nat.zero_le _) hD4
  | cons w0 ws =>
    refine ⟨true, rfl, ?_⟩
    rw [if_pos rfl]
    walk_at "pd"
    exact kk k ts (w0 :: ws) true _ ⟨hkd, hts, hws, fun z => nomatch z⟩ htl hwl hD3
end
end
section
variable {P : Program} {w : World} {K : PySem.W.Frag} {mg : Str → Option Value} {base : Heap}
/-! ### a store that is nearly as it should be -/
def tupR (r : Rw) : D := rowTup r.k r.ts r.ws r.a
def okR (n : Nat) (r : Rw) : Prop := RowOk r.k r.ts r.ws r.a ∧ r.ts.length ≤ 2 ∧ r.ws.length ≤ n
theorem okR.mono {n m : Nat} {r : Rw} (h : okR n r) (e : n ≤ m) : okR m r := ⟨h.1, h.2.1, Nat.le_trans h.2.2 e⟩
def drowB (r : Rw) : Bool := decide (r.k ∈ kindsL) && r.ts.all (fun t => decide (t ∈ testsOf r.k) || (testsOf r.k).any fun t0 => decide (t = "not " ++ t0)) && r.ws.all (fun d => decide (d ∈ deedsOf r.k)) && (r.a || r.ws.isEmpty) && decide (r.ts.length ≤ 2) && decide (r.ws.length ≤ 5)
theorem drowB_ok {r : Rw} (h : drowB r = true) : okR 5 r := by
  unfold drowB at h
  simp only [Bool.and_eq_true, decide_eq_true_eq, List.all_eq_true, Bool.or_eq_true, List.any_eq_true] at h
  obtain ⟨⟨⟨⟨⟨h1, h2⟩, h3⟩, h4⟩, h5⟩, h6⟩ := h
  exact ⟨⟨h1, h2, h3, fun e => by
    rcases h4 with h4 | h4
    · rw [e] at h4; cases h4
    · exact List.isEmpty_iff.mp h4⟩, h5, h6⟩
def joinL0 : List (List Str) := [["move", "point", "turn"], ["mark", "move", "point", "turn"], ["note", "move", "point", "turn"]]
def freeL : List Str := ["not loser points", "not winner points"]
theorem joinL0_ok : ∀ J ∈ joinL0, drowB ⟨"join", freeL, J, true⟩ = true ∧ drowB ⟨"join", freeL, "strike" :: J, true⟩ = true := by decide +kernel
def leadL : List (List Str) := [["lead", "sign"], ["lead"], ["list", "sign"], ["sign", "list", "lead"]]
def plainL : List (List Str) := [["list"], ["list", "sign"]]
theorem leadL_ok : ∀ l ∈ leadL, drowB ⟨"new", ["points"], l, true⟩ = true := by decide +kernel
theorem plainL_ok : ∀ l ∈ plainL, drowB ⟨"new", [], l, true⟩ = true := by decide +kernel
theorem sweep_ok {t : Str} {ws : List Str} (ht : t ∈ (["points", "not points"] : List Str)) (hl : ws.length ≤ 4) (hw : ∀ d ∈ ws, d ∈ deedsOf "sweep") : okR 5 ⟨"sweep", [t], ws, true⟩ := by
  have e1 : ("sweep" : Str) ∈ kindsL := by decide
  have e2 : ("points" : Str) ∈ testsOf "sweep" := by decide
  refine ⟨⟨e1, fun u hu => ?_, hw, fun h => nomatch h⟩, by simp, by show ws.length ≤ 5; omega⟩
  rw [List.mem_singleton.mp hu]
  rcases List.mem_cons.mp ht with rfl | ht
  · exact .inl e2
  · rw [List.mem_singleton.mp ht]
    exact .inr ⟨"points", e2, by decide⟩
def spDGood : SpD := fun ds μ Q _ => ∃ p q μr, ds = [.ref p] ∧ Deal p q μr μ ∧ ∀ (rs : List Rw) g μ', (∀ r ∈ rs, okR 5 r) → rs ≠ [] → rs.length ≤ 5 → Deal p q ((g, .lst (rs.map tupR)) :: μr) μ' → Q (.ref g) μ'
section
abbrev N_good : List Str := ["_law_deal_here", "_law_free", "_law_join", "_law_rows_here", "_law_form", "_law_lead", "_law_plain"]
theorem sc_good : FnScope N_good ["_law_deal_here"] (defScope sgood) := ⟨rfl, rfl, rfl, by decide +kernel, rfl, by decide +kernel, by decide +kernel⟩
theorem v_good_deal_here : Nm N_good (defScope sgood) 0 "_law_deal_here" := ⟨rfl, by decide +kernel, by decide +kernel, by decide +kernel⟩
theorem v_good_free : Nm N_good (defScope sgood) 1 "_law_free" := ⟨rfl, by decide +kernel, by decide +kernel, by decide +kernel⟩
theorem v_good_join : Nm N_good (defScope sgood) 2 "_law_join" := ⟨rfl, by decide +kernel, by decide +kernel, by decide +kernel⟩
theorem v_good_rows_here : Nm N_good (defScope sgood) 3 "_law_rows_here" := ⟨rfl, by decide +kernel, by decide +kernel, by decide +kernel⟩
theorem v_good_form : Nm N_good (defScope sgood) 4 "_law_form" := ⟨rfl, by decide +kernel, by decide +kernel, by decide +kernel⟩
theorem v_good_lead : Nm N_good (defScope sgood) 5 "_law_lead" := ⟨rfl, by decide +kernel, by decide +kernel, by decide +kernel⟩
theorem v_good_plain : Nm N_good (defScope sgood) 6 "_law_plain" := ⟨rfl, by decide +kernel, by decide +kernel, by decide +kernel⟩
theorem gl_good_deeds : (defScope sgood).names.lookup ("_law_deeds" : Str) = some .globalImplicit := by decide +kernel
theorem gl_good_draw : (defScope sgood).names.lookup ("_law_draw" : Str) = some .globalImplicit := by decide +kernel
theorem gl_good_pick : (defScope sgood).names.lookup ("_law_pick" : Str) = some .globalImplicit := by decide +kernel
local macro_rules | `(tactic| walk_at "pd.nm") => `(tactic| first
  | ((with_reducible show ed _ (Expr.Name "_law_deal_here" _) _ _ _); first | refine ed_nm v_good_deal_here rfl ?_ | refine ed_nmB (sc := defScope sgood) v_good_deal_here rfl ?_)
  | ((with_reducible show ed _ (Expr.Name "_law_free" _) _ _ _); first | refine ed_nm v_good_free rfl ?_ | refine ed_nmB (sc := defScope sgood) v_good_free rfl ?_)
  | ((with_reducible show ed _ (Expr.Name "_law_join" _) _ _ _); first | refine ed_nm v_good_join rfl ?_ | refine ed_nmB (sc := defScope sgood) v_good_join rfl ?_)
  | ((with_reducible show ed _ (Expr.Name "_law_rows_here" _) _ _ _); first | refine ed_nm v_good_rows_here rfl ?_ | refine ed_nmB (sc := defScope sgood) v_good_rows_here rfl ?_)
  | ((with_reducible show ed _ (Expr.Name "_law_form" _) _ _ _); first | refine ed_nm v_good_form rfl ?_ | refine ed_nmB (sc := defScope sgood) v_good_form rfl ?_)
  | ((with_reducible show ed _ (Expr.Name "_law_lead" _) _ _ _); first | refine ed_nm v_good_lead rfl ?_ | refine ed_nmB (sc := defScope sgood) v_good_lead rfl ?_)
  | ((with_reducible show ed _ (Expr.Name "_law_plain" _) _ _ _); first | refine ed_nm v_good_plain rfl ?_ | refine ed_nmB (sc := defScope sgood) v_good_plain rfl ?_)
  | fail)
local macro_rules | `(tactic| walk_at "pd.set") => `(tactic| first
  | ((with_reducible show sd _ (Stmt.Assign [Expr.Name "_law_free" _] _ _) _ _ _); refine sd_nm v_good_free sc_good.nd ?_)
  | ((with_reducible show sd _ (Stmt.Assign [Expr.Name "_law_join" _] _ _) _ _ _); refine sd_nm v_good_join sc_good.nd ?_)
  | ((with_reducible show sd _ (Stmt.Assign [Expr.Name "_law_rows_here" _] _ _) _ _ _); refine sd_nm v_good_rows_here sc_good.nd ?_)
  | ((with_reducible show sd _ (Stmt.Assign [Expr.Name "_law_form" _] _ _) _ _ _); refine sd_nm v_good_form sc_good.nd ?_)
  | ((with_reducible show sd _ (Stmt.Assign [Expr.Name "_law_lead" _] _ _) _ _ _); refine sd_nm v_good_lead sc_good.nd ?_)
  | ((with_reducible show sd _ (Stmt.Assign [Expr.Name "_law_plain" _] _ _) _ _ _); refine sd_nm v_good_plain sc_good.nd ?_)
  | fail)
local macro_rules | `(tactic| walk_at "pd.g") => `(tactic| first
  | ((with_reducible show gd _ (Expr.Name "_law_free" _) _ _ _ _); refine gd_nm v_good_free sc_good.nd ?_)
  | ((with_reducible show gd _ (Expr.Name "_law_join" _) _ _ _ _); refine gd_nm v_good_join sc_good.nd ?_)
  | ((with_reducible show gd _ (Expr.Name "_law_rows_here" _) _ _ _ _); refine gd_nm v_good_rows_here sc_good.nd ?_)
  | ((with_reducible show gd _ (Expr.Name "_law_form" _) _ _ _ _); refine gd_nm v_good_form sc_good.nd ?_)
  | ((with_reducible show gd _ (Expr.Name "_law_lead" _) _ _ _ _); refine gd_nm v_good_lead sc_good.nd ?_)
  | ((with_reducible show gd _ (Expr.Name "_law_plain" _) _ _ _ _); refine gd_nm v_good_plain sc_good.nd ?_)
  | fail)
local macro_rules | `(tactic| walk_at "pd.call") => `(tactic| first
  | ((with_reducible show ed _ (Expr.Call (Expr.Name "_law_draw" _) (_ :: _) _ _) _ _ _); refine ed_callC ((ok_draw (by assumption)).at_ _) (by assumption) (by decide) (g_draw (by assumption)) ?_ (hg := by first | exact gl_of gl_good_draw))
  | ((with_reducible show ed _ (Expr.Call (Expr.Name "_law_pick" _) (_ :: _) _ _) _ _ _); refine ed_callC ((ok_pick (by assumption)).at_ _) (by assumption) (by decide) (g_pick (by assumption)) ?_ (hg := by first | exact gl_of gl_good_pick))
  | ((with_reducible show ed _ (Expr.Call (Expr.Attribute _ "append" _) (_ :: _) _ _) _ _ _); with_reducible refine ed_bm PySem.F.plainAttrs_list PySem.F.slot_list_append PySem.F.type_list_append ?_)
  | ((with_reducible show ed _ (Expr.Call (Expr.Name "_law_deeds" _) (_ :: _) _ _) _ _ _); refine ed_callC ((ok_deeds (by assumption)).at_ _) (by assumption) (by decide) (g_deeds (by assumption)) ?_ (hg := by first | exact gl_of gl_good_deeds))
  | fail)
local macro_rules | `(tactic| walk_at "pd.it") => `(tactic| first
  | ((with_reducible show eid _ _ _ _ _ _); refine eid_of ?_)
  | fail)
local macro_rules | `(tactic| walk_at "pd.opd") => `(tactic| ((with_reducible show opd _ _ (D.lst [tupR _, tupR _]) (D.lst _) _ _ _); refine opd_catO (by show 2 + 2 ≤ sizeLine; rw [sizeLine_eq]; omega) ?_))
theorem ok_good (T : T0 w K mg) : CallD P w K mg base 4 (He.ga K "_law_good") 1 [] spDGood := by
  obtain ⟨fd, F⟩ := f_good T
  refine CallD.mk0 (ps := ["_law_deal_here"]) F (fun _ _ _ _ _ _ us hl => match us, hl with | [_], _ => rfl) (fnD_of F sc_good fun cdv A outer s H F0 μ ds Qd Ed hr hl h => ?_)
  obtain ⟨p, q, μr, rfl, hD, kk⟩ := h
  have hu := hr.units
  show sds _ _ (some (.ref p) :: List.replicate 6 none) _ _
  refine sds_cons ?_
  walk_at "pdS"
  refine sds_cons ?_
  walk_at "pdS"
  refine sds_cut (fun δ' μ' => ∃ J ∈ joinL0, δ' = [some (.ref p), some (.lst ((["not loser points", "not winner points"] : List Str).map .str)), some (.lst (J.map .str)), none, none, none, none] ∧ Deal p q μr μ') ?_ ?_
  · walk_at "pd"
    refine ⟨p, q, μr, _, rfl, hD, by decide, by decide, fun r μ1 r0 r1 hD1 => ?_⟩
    walk_at "pd"
    refine ifd (fun h1 => ?_) (fun h1 => ?_)
    · walk_at "pd"
      refine ⟨p, q, μr, _, _, rfl, Or.inl rfl, hD1, by simp, by decide, fun d hd μ2 hD2 => ?_⟩
      obtain ⟨s, hs, rfl⟩ := List.mem_map.mp (show d ∈ (["mark", "mark", "note"] : List Str).map D.str from hd)
      walk_at "pd"
      refine ⟨s :: ["move", "point", "turn"], ?_, rfl, hD2⟩
      unfold joinL0
      simp only [List.mem_cons, List.not_mem_nil, or_false] at hs
      rcases hs with rfl | rfl | rfl <;> simp
    · walk_at "pd"
      exact ⟨["move", "point", "turn"], by unfold joinL0; simp, rfl, hD1⟩
  rintro δ' μ1 ⟨J, hJ, rfl, hD1⟩
  refine sds_cons ?_
  walk_at "pdS"
  refine sds_cons ?_
  walk_at "pdS"
  refine ⟨p, q, μr, _, rfl, hD1, by decide, by decide, fun f μ2 f0 f1 hD2 => ?_⟩
  walk_at "pdS"
  refine sds_cut (fun δ' μ' => ∃ r1 r2, δ' = [some (.ref p), some (.lst (freeL.map .str)), some (.lst (J.map .str)), some (.lst [tupR r1, tupR r2]), some (.int f), none, none] ∧ Deal p q μr μ' ∧ okR 5 r1 ∧ okR 5 r2) ?_ ?_
  · walk_at "pd"
    refine ifd (fun h1 => ?_) (fun h1 => ?_)
    · walk_at "pd"
      refine opd_cat (by rw [List.length_map]; show 1 + J.length ≤ _; have := (show ∀ J ∈ joinL0, J.length ≤ 4 by decide) J hJ; rw [sizeLine_eq]; omega) ?_
      walk_at "pd"
      exact ⟨⟨"join", freeL, "strike" :: J, true⟩, ⟨"back", ["struck"], ["recall", "bare", "wake"], true⟩, rfl, hD2, drowB_ok (joinL0_ok J hJ).2, drowB_ok (by decide +kernel)⟩
    · walk_at "pd"
      exact ⟨⟨"join", freeL, J, true⟩, ⟨"back", ["points"], ["recall", "bare"], true⟩, rfl, hD2, drowB_ok (joinL0_ok J hJ).1, drowB_ok (by decide +kernel)⟩
  rintro δ' μ3 ⟨r1, r2, rfl, hD3, ok1, ok2⟩
  refine sds_cons ?_
  walk_at "pdS"
  refine ⟨p, q, μr, _, _, rfl, Or.inl rfl, hD3, by simp, by simp, fun d hd μ4 hD4 => ?_⟩
  obtain ⟨ll, hll, rfl⟩ := List.mem_map.mp (show d ∈ leadL.map (fun l => D.lst (l.map D.str)) from hd)
  walk_at "pdS"
  refine sds_cons ?_
  walk_at "pdS"
  refine ⟨p, q, μr, _, _, rfl, Or.inl rfl, hD4, by simp, by simp, fun d hd μ5 hD5 => ?_⟩
  obtain ⟨pl, hpl, rfl⟩ := List.mem_map.mp (show d ∈ plainL.map (fun l => D.lst (l.map D.str)) from hd)
  walk_at "pdS"
  refine sds_cons ?_
  walk_at "pdS"
  intro g
  obtain ⟨l5, m5, hL5, rfl⟩ := hD5
  have hm : (g, Cell.lst ([tupR r1, tupR r2] ++ [D.tup [D.str ("new"), D.lst [D.str ("points")], D.lst (List.map D.str ll), D.bl true], D.tup [D.str ("new"), D.lst [], D.lst (List.map D.str pl), D.bl true]])) = (g, Cell.lst ([r1, r2, (⟨"new", ["points"], ll, true⟩ : Rw), ⟨"new", [], pl, true⟩].map tupR)) := rfl
  rw [hm]
  clear hm
  have oks : ∀ r ∈ [r1, r2, (⟨"new", ["points"], ll, true⟩ : Rw), ⟨"new", [], pl, true⟩], okR 5 r := by
    intro r hr
    simp only [List.mem_cons, List.not_mem_nil, or_false] at hr
    rcases hr with rfl | rfl | rfl | rfl
    · exact ok1
    · exact ok2
    · exact drowB_ok (leadL_ok ll hll)
    · exact drowB_ok (plainL_ok pl hpl)
  generalize hrs : [r1, r2, (⟨"new", ["points"], ll, true⟩ : Rw), ⟨"new", [], pl, true⟩] = rs at oks ⊢
  have hlen : rs.length = 4 := by rw [← hrs]; rfl
  clear hrs
  refine sds_mu (dealM p q l5 m5 ++ (g, .lst (rs.map tupR)) :: μr) List.perm_middle.symm ?_
  refine sds_cons ?_
  walk_at "pd"
  refine ifd (fun h1 => ?_) (fun h1 => ?_)
  · walk_at "pd"
    refine ⟨p, q, _, _, _, rfl, Or.inl rfl, ⟨l5, m5, hL5, rfl⟩, by simp, by decide, fun d hd μ6 hD6 => ?_⟩
    obtain ⟨t, ht, rfl⟩ := List.mem_map.mp (show d ∈ (["points", "not points"] : List Str).map D.str from hd)
    walk_at "pd"
    refine ⟨p, q, _, _, rfl, hD6, by decide, fun ws μ7 hwl hws hD7 => ?_⟩
    obtain ⟨l7, m7, hL7, rfl⟩ := hD7
    walk_at "pd"
    refine mtd_append (μ1 := dealM p q l7 m7) (small_lt (by rw [List.length_map]; omega)) ?_
    walk_at "pd"
    refine kk (rs ++ [⟨"sweep", [t], ws, true⟩]) g _ (fun r hr => ?_) (by simp) (by rw [List.length_append]; show rs.length + 1 ≤ 5; omega) ⟨l7, m7, hL7, by rw [List.map_append]; rfl⟩
    rcases List.mem_append.mp hr with h | h
    · exact oks r h
    · rw [List.mem_singleton.mp h]
      exact sweep_ok ht hwl hws
  · walk_at "pd"
    exact kk rs g _ oks (fun e => by rw [e] at hlen; cases hlen) (by omega) ⟨l5, m5, hL5, rfl⟩
end
end
section
variable {P : Program} {w : World} {K : PySem.W.Frag} {mg : Str → Option Value} {base : Heap}
/-! ### drawn stores -/
theorem maps_of {α : Type} {f : α → D} {P : α → Prop} : ∀ {acc : List D}, (∀ r ∈ acc, ∃ x, r = f x ∧ P x) → ∃ xs : List α, acc = xs.map f ∧ (∀ x ∈ xs, P x) ∧ xs.length = acc.length
  | [], _ => ⟨[], rfl, fun _ h => (List.not_mem_nil h).elim, rfl⟩
  | a :: acc, h => by
    obtain ⟨x, rfl, hx⟩ := h a List.mem_cons_self
    obtain ⟨xs, rfl, h1, h2⟩ := maps_of (acc := acc) fun r hr => h r (List.mem_cons_of_mem _ hr)
    exact ⟨x :: xs, rfl, fun y hy => by
      rcases List.mem_cons.mp hy with rfl | hy
      · exact hx
      · exact h1 y hy, by rw [List.length_cons, List.length_cons, h2]⟩
theorem cutD_toL {xs : List D} {r : Int} (h0 : 0 ≤ r) : PD.cutD xs none (some r) = xs.take r.toNat := by
  by_cases h : r ≤ xs.length
  · exact cutD_to h0 h
  · unfold PD.cutD HT.sIx
    simp only [List.drop_zero, Nat.sub_zero]
    rw [if_neg (by omega), Nat.min_eq_right (by omega), List.take_length, List.take_of_length_le (by omega)]
theorem cutD_fromL {xs : List D} {r : Int} (h0 : 0 ≤ r) : PD.cutD xs (some r) none = xs.drop r.toNat := by
  by_cases h : r ≤ xs.length
  · exact cutD_from h0 h
  · unfold PD.cutD HT.sIx
    simp only
    rw [if_neg (by omega), Nat.min_eq_right (by omega), List.drop_length, Nat.sub_self, List.take_zero, List.drop_of_length_le (by omega)]
theorem set_okR {rs : List Rw} {n j : Nat} {r' : Rw} (h : ∀ r ∈ rs, okR n r) (h' : okR (n + 1) r') : ∀ r ∈ rs.set j r', okR (n + 1) r := by
  intro r hr
  rcases List.mem_or_eq_of_mem_set hr with e | e
  · exact (h r e).mono (Nat.le_succ _)
  · rw [e]; exact h'
def spDRows : SpD := fun ds μ Q _ => ∃ p q μr most, ds = [.ref p, .int most] ∧ Deal p q μr μ ∧ 1 ≤ most ∧ most ≤ 20 ∧ ∀ (rs : List Rw) μ', (∀ r ∈ rs, okR 7 r) → rs ≠ [] → (rs.length : Int) ≤ most → Deal p q μr μ' → Q (.lst (rs.map tupR)) μ'
section
abbrev N_rows : List Str := ["_law_deal_here", "_law_most", "_law_rows_here", "_law_turn", "_law_at", "_law_form", "_law_kind", "_law_tests_here", "_law_deeds_here", "_law_answer", "_law_spot"]
theorem sc_rows : FnScope N_rows ["_law_deal_here", "_law_most"] (defScope srows) := ⟨rfl, rfl, rfl, by decide +kernel, rfl, by decide +kernel, by decide +kernel⟩
theorem v_rows_deal_here : Nm N_rows (defScope srows) 0 "_law_deal_here" := ⟨rfl, by decide +kernel, by decide +kernel, by decide +kernel⟩
theorem v_rows_most : Nm N_rows (defScope srows) 1 "_law_most" := ⟨rfl, by decide +kernel, by decide +kernel, by decide +kernel⟩
theorem v_rows_rows_here : Nm N_rows (defScope srows) 2 "_law_rows_here" := ⟨rfl, by decide +kernel, by decide +kernel, by decide +kernel⟩
theorem v_rows_turn : Nm N_rows (defScope srows) 3 "_law_turn" := ⟨rfl, by decide +kernel, by decide +kernel, by decide +kernel⟩
theorem w_rows_turn : NmB N_rows 3 "_law_turn" := ⟨rfl, by decide +kernel, by decide +kernel⟩
theorem v_rows_at : Nm N_rows (defScope srows) 4 "_law_at" := ⟨rfl, by decide +kernel, by decide +kernel, by decide +kernel⟩
theorem v_rows_form : Nm N_rows (defScope srows) 5 "_law_form" := ⟨rfl, by decide +kernel, by decide +kernel, by decide +kernel⟩
theorem v_rows_kind : Nm N_rows (defScope srows) 6 "_law_kind" := ⟨rfl, by decide +kernel, by decide +kernel, by decide +kernel⟩
theorem v_rows_tests_here : Nm N_rows (defScope srows) 7 "_law_tests_here" := ⟨rfl, by decide +kernel, by decide +kernel, by decide +kernel⟩
theorem v_rows_deeds_here : Nm N_rows (defScope srows) 8 "_law_deeds_here" := ⟨rfl, by decide +kernel, by decide +kernel, by decide +kernel⟩
theorem v_rows_answer : Nm N_rows (defScope srows) 9 "_law_answer" := ⟨rfl, by decide +kernel, by decide +kernel, by decide +kernel⟩
theorem v_rows_spot : Nm N_rows (defScope srows) 10 "_law_spot" := ⟨rfl, by decide +kernel, by decide +kernel, by decide +kernel⟩
theorem gl_rows_deeds : (defScope srows).names.lookup ("_law_deeds" : Str) = some .globalImplicit := by decide +kernel
theorem gl_rows_draw : (defScope srows).names.lookup ("_law_draw" : Str) = some .globalImplicit := by decide +kernel
theorem gl_rows_good : (defScope srows).names.lookup ("_law_good" : Str) = some .globalImplicit := by decide +kernel
theorem gl_rows_row : (defScope srows).names.lookup ("_law_row" : Str) = some .globalImplicit := by decide +kernel
theorem gl_rows_len : (defScope srows).names.lookup ("len" : Str) = some .globalImplicit := by decide +kernel
theorem gl_rows_range : (defScope srows).names.lookup ("range" : Str) = some .globalImplicit := by decide +kernel
theorem sl_rows_rows_here : (defScope srows).names.lookup ("_law_rows_here" : Str) = some .local := by decide +kernel
theorem sl_rows_turn : (defScope srows).names.lookup ("_law_turn" : Str) = some .local := by decide +kernel
theorem sl_rows_at : (defScope srows).names.lookup ("_law_at" : Str) = some .local := by decide +kernel
theorem sl_rows_form : (defScope srows).names.lookup ("_law_form" : Str) = some .local := by decide +kernel
theorem sl_rows_kind : (defScope srows).names.lookup ("_law_kind" : Str) = some .local := by decide +kernel
theorem sl_rows_tests_here : (defScope srows).names.lookup ("_law_tests_here" : Str) = some .local := by decide +kernel
theorem sl_rows_deeds_here : (defScope srows).names.lookup ("_law_deeds_here" : Str) = some .local := by decide +kernel
theorem sl_rows_answer : (defScope srows).names.lookup ("_law_answer" : Str) = some .local := by decide +kernel
theorem sl_rows_spot : (defScope srows).names.lookup ("_law_spot" : Str) = some .local := by decide +kernel
local macro_rules | `(tactic| walk_at "pd.nm") => `(tactic| first
  | ((with_reducible show ed _ (Expr.Name "_law_deal_here" _) _ _ _); first | refine ed_nm v_rows_deal_here rfl ?_ | refine ed_nmB (sc := defScope srows) v_rows_deal_here rfl ?_)
  | ((with_reducible show ed _ (Expr.Name "_law_most" _) _ _ _); first | refine ed_nm v_rows_most rfl ?_ | refine ed_nmB (sc := defScope srows) v_rows_most rfl ?_)
  | ((with_reducible show ed _ (Expr.Name "_law_rows_here" _) _ _ _); first | refine ed_nm v_rows_rows_here rfl ?_ | refine ed_nmB (sc := defScope srows) v_rows_rows_here rfl ?_)
  | ((with_reducible show ed _ (Expr.Name "_law_turn" _) _ _ _); first | refine ed_nm v_rows_turn rfl ?_ | refine ed_nmB (sc := defScope srows) v_rows_turn rfl ?_)
  | ((with_reducible show ed _ (Expr.Name "_law_turn" _) _ _ _); refine ed_nmC (sc := defScope srows) w_rows_turn rfl ?_)
  | ((with_reducible show ed _ (Expr.Name "_law_at" _) _ _ _); first | refine ed_nm v_rows_at rfl ?_ | refine ed_nmB (sc := defScope srows) v_rows_at rfl ?_)
  | ((with_reducible show ed _ (Expr.Name "_law_form" _) _ _ _); first | refine ed_nm v_rows_form rfl ?_ | refine ed_nmB (sc := defScope srows) v_rows_form rfl ?_)
  | ((with_reducible show ed _ (Expr.Name "_law_kind" _) _ _ _); first | refine ed_nm v_rows_kind rfl ?_ | refine ed_nmB (sc := defScope srows) v_rows_kind rfl ?_)
  | ((with_reducible show ed _ (Expr.Name "_law_tests_here" _) _ _ _); first | refine ed_nm v_rows_tests_here rfl ?_ | refine ed_nmB (sc := defScope srows) v_rows_tests_here rfl ?_)
  | ((with_reducible show ed _ (Expr.Name "_law_deeds_here" _) _ _ _); first | refine ed_nm v_rows_deeds_here rfl ?_ | refine ed_nmB (sc := defScope srows) v_rows_deeds_here rfl ?_)
  | ((with_reducible show ed _ (Expr.Name "_law_answer" _) _ _ _); first | refine ed_nm v_rows_answer rfl ?_ | refine ed_nmB (sc := defScope srows) v_rows_answer rfl ?_)
  | ((with_reducible show ed _ (Expr.Name "_law_spot" _) _ _ _); first | refine ed_nm v_rows_spot rfl ?_ | refine ed_nmB (sc := defScope srows) v_rows_spot rfl ?_)
  | ((with_reducible show ed _ (Expr.Name "range" _) _ _ _); refine ed_ty (n := "range") (b_range (by assumption)) bb_range ?_ (hg := by first | exact gl_of gl_rows_range | exact glB_of (sc := defScope srows)))
  | fail)
local macro_rules | `(tactic| walk_at "pd.set") => `(tactic| first
  | ((with_reducible show sd _ (Stmt.Assign [Expr.Name "_law_rows_here" _] (Expr.ListComp _ _ _ _) _) _ _ _); refine sd_setLcO (own := [("_law_turn", 3)]) (i := 2) rfl sc_rows.nd rfl (by exact sl_rows_rows_here) (sw_true rfl (by exact sl_rows_rows_here) rfl (by decide +kernel)) (blkOk_by (N := N_rows) (sc := defScope srows) (by decide +kernel)) ?_)
  | ((with_reducible show sd _ (Stmt.Assign [Expr.Name "_law_turn" _] (Expr.ListComp _ _ _ _) _) _ _ _); refine sd_setLcO (own := [("_law_turn", 3)]) (i := 3) rfl sc_rows.nd rfl (by exact sl_rows_turn) (sw_true rfl (by exact sl_rows_turn) rfl (by decide +kernel)) (blkOk_by (N := N_rows) (sc := defScope srows) (by decide +kernel)) ?_)
  | ((with_reducible show sd _ (Stmt.Assign [Expr.Name "_law_at" _] (Expr.ListComp _ _ _ _) _) _ _ _); refine sd_setLcO (own := [("_law_turn", 3)]) (i := 4) rfl sc_rows.nd rfl (by exact sl_rows_at) (sw_true rfl (by exact sl_rows_at) rfl (by decide +kernel)) (blkOk_by (N := N_rows) (sc := defScope srows) (by decide +kernel)) ?_)
  | ((with_reducible show sd _ (Stmt.Assign [Expr.Name "_law_form" _] (Expr.ListComp _ _ _ _) _) _ _ _); refine sd_setLcO (own := [("_law_turn", 3)]) (i := 5) rfl sc_rows.nd rfl (by exact sl_rows_form) (sw_true rfl (by exact sl_rows_form) rfl (by decide +kernel)) (blkOk_by (N := N_rows) (sc := defScope srows) (by decide +kernel)) ?_)
  | ((with_reducible show sd _ (Stmt.Assign [Expr.Name "_law_kind" _] (Expr.ListComp _ _ _ _) _) _ _ _); refine sd_setLcO (own := [("_law_turn", 3)]) (i := 6) rfl sc_rows.nd rfl (by exact sl_rows_kind) (sw_true rfl (by exact sl_rows_kind) rfl (by decide +kernel)) (blkOk_by (N := N_rows) (sc := defScope srows) (by decide +kernel)) ?_)
  | ((with_reducible show sd _ (Stmt.Assign [Expr.Name "_law_tests_here" _] (Expr.ListComp _ _ _ _) _) _ _ _); refine sd_setLcO (own := [("_law_turn", 3)]) (i := 7) rfl sc_rows.nd rfl (by exact sl_rows_tests_here) (sw_true rfl (by exact sl_rows_tests_here) rfl (by decide +kernel)) (blkOk_by (N := N_rows) (sc := defScope srows) (by decide +kernel)) ?_)
  | ((with_reducible show sd _ (Stmt.Assign [Expr.Name "_law_deeds_here" _] (Expr.ListComp _ _ _ _) _) _ _ _); refine sd_setLcO (own := [("_law_turn", 3)]) (i := 8) rfl sc_rows.nd rfl (by exact sl_rows_deeds_here) (sw_true rfl (by exact sl_rows_deeds_here) rfl (by decide +kernel)) (blkOk_by (N := N_rows) (sc := defScope srows) (by decide +kernel)) ?_)
  | ((with_reducible show sd _ (Stmt.Assign [Expr.Name "_law_answer" _] (Expr.ListComp _ _ _ _) _) _ _ _); refine sd_setLcO (own := [("_law_turn", 3)]) (i := 9) rfl sc_rows.nd rfl (by exact sl_rows_answer) (sw_true rfl (by exact sl_rows_answer) rfl (by decide +kernel)) (blkOk_by (N := N_rows) (sc := defScope srows) (by decide +kernel)) ?_)
  | ((with_reducible show sd _ (Stmt.Assign [Expr.Name "_law_spot" _] (Expr.ListComp _ _ _ _) _) _ _ _); refine sd_setLcO (own := [("_law_turn", 3)]) (i := 10) rfl sc_rows.nd rfl (by exact sl_rows_spot) (sw_true rfl (by exact sl_rows_spot) rfl (by decide +kernel)) (blkOk_by (N := N_rows) (sc := defScope srows) (by decide +kernel)) ?_)
  | ((with_reducible show sd _ (Stmt.Assign [Expr.Name "_law_rows_here" _] _ _) _ _ _); refine sd_nm v_rows_rows_here sc_rows.nd ?_)
  | ((with_reducible show sd _ (Stmt.Assign [Expr.Name "_law_turn" _] _ _) _ _ _); refine sd_nm v_rows_turn sc_rows.nd ?_)
  | ((with_reducible show sd _ (Stmt.Assign [Expr.Name "_law_at" _] _ _) _ _ _); refine sd_nm v_rows_at sc_rows.nd ?_)
  | ((with_reducible show sd _ (Stmt.Assign [Expr.Name "_law_form" _] _ _) _ _ _); refine sd_nm v_rows_form sc_rows.nd ?_)
  | ((with_reducible show sd _ (Stmt.Assign [Expr.Name "_law_kind" _] _ _) _ _ _); refine sd_nm v_rows_kind sc_rows.nd ?_)
  | ((with_reducible show sd _ (Stmt.Assign [Expr.Name "_law_tests_here" _] _ _) _ _ _); refine sd_nm v_rows_tests_here sc_rows.nd ?_)
  | ((with_reducible show sd _ (Stmt.Assign [Expr.Name "_law_deeds_here" _] _ _) _ _ _); refine sd_nm v_rows_deeds_here sc_rows.nd ?_)
  | ((with_reducible show sd _ (Stmt.Assign [Expr.Name "_law_answer" _] _ _) _ _ _); refine sd_nm v_rows_answer sc_rows.nd ?_)
  | ((with_reducible show sd _ (Stmt.Assign [Expr.Name "_law_spot" _] _ _) _ _ _); refine sd_nm v_rows_spot sc_rows.nd ?_)
  | fail)
local macro_rules | `(tactic| walk_at "pd.g") => `(tactic| first
  | ((with_reducible show gd _ (Expr.Name "_law_rows_here" _) _ _ _ _); refine gd_nm v_rows_rows_here sc_rows.nd ?_)
  | ((with_reducible show gd _ (Expr.Name "_law_turn" _) _ _ _ _); refine gd_nm v_rows_turn sc_rows.nd ?_)
  | ((with_reducible show gv _ (Expr.Name "_law_turn" _) _ _ _ _ _); refine gv_nmC (sc := defScope srows) w_rows_turn sc_rows.nd (by decide) ?_)
  | ((with_reducible show gd _ (Expr.Name "_law_at" _) _ _ _ _); refine gd_nm v_rows_at sc_rows.nd ?_)
  | ((with_reducible show gd _ (Expr.Name "_law_form" _) _ _ _ _); refine gd_nm v_rows_form sc_rows.nd ?_)
  | ((with_reducible show gd _ (Expr.Name "_law_kind" _) _ _ _ _); refine gd_nm v_rows_kind sc_rows.nd ?_)
  | ((with_reducible show gd _ (Expr.Name "_law_tests_here" _) _ _ _ _); refine gd_nm v_rows_tests_here sc_rows.nd ?_)
  | ((with_reducible show gd _ (Expr.Name "_law_deeds_here" _) _ _ _ _); refine gd_nm v_rows_deeds_here sc_rows.nd ?_)
  | ((with_reducible show gd _ (Expr.Name "_law_answer" _) _ _ _ _); refine gd_nm v_rows_answer sc_rows.nd ?_)
  | ((with_reducible show gd _ (Expr.Name "_law_spot" _) _ _ _ _); refine gd_nm v_rows_spot sc_rows.nd ?_)
  | fail)
local macro_rules | `(tactic| walk_at "pd.call") => `(tactic| first
  | ((with_reducible show ed _ (Expr.Call (Expr.Name "_law_good" _) (_ :: _) _ _) _ _ _); refine ed_callC ((ok_good (by assumption)).at_ _) (by assumption) (by decide) (g_good (by assumption)) ?_ (hg := by first | exact gl_of gl_rows_good))
  | ((with_reducible show ed _ (Expr.Call (Expr.Name "_law_draw" _) (_ :: _) _ _) _ _ _); refine ed_callC ((ok_draw (by assumption)).at_ _) (by assumption) (by decide) (g_draw (by assumption)) ?_ (hg := by first | exact gl_of gl_rows_draw | exact glB_of (sc := defScope srows)))
  | ((with_reducible show ed _ (Expr.Call (Expr.Name "_law_row" _) (_ :: _) _ _) _ _ _); refine ed_callC ((ok_row (by assumption)).at_ _) (by assumption) (by decide) (g_row (by assumption)) ?_ (hg := by first | exact gl_of gl_rows_row | exact glB_of (sc := defScope srows)))
  | ((with_reducible show ed _ (Expr.Call (Expr.Attribute _ "insert" _) (_ :: _) _ _) _ _ _); with_reducible refine ed_bm PySem.F.plainAttrs_list PySem.F.slot_list_insert PySem.F.type_list_insert ?_)
  | ((with_reducible show ed _ (Expr.Call (Expr.Name "len" _) (_ :: _) _ _) _ _ _); refine ed_callB (id := "len") (b_len (by assumption)) bb_len ?_ (hg := by first | exact gl_of gl_rows_len))
  | ((with_reducible show ed _ (Expr.Call (Expr.Name "_law_deeds" _) (_ :: _) _ _) _ _ _); refine ed_callC ((ok_deeds (by assumption)).at_ _) (by assumption) (by decide) (g_deeds (by assumption)) ?_ (hg := by first | exact gl_of gl_rows_deeds))
  | fail)
local macro_rules | `(tactic| walk_at "pd.lc") => `(tactic| first
  | ((with_reducible show ed _ (Expr.ListComp _ [_] _ _) _ _ _); refine ed_lc (own := [("_law_turn", 3)]) [("_law_turn", 3)] rfl rfl sc_rows.nd (blkOk_by (N := N_rows) (sc := defScope srows) (by decide +kernel)) ?_)
  | fail)
local macro_rules | `(tactic| walk_at "pd.it") => `(tactic| first
  | ((with_reducible show eid _ _ (Expr.Call (Expr.Name "range" _) [_] _ _) _ _ _); refine eid_range (b_range (by assumption)) ?_ (hg := by first | exact gl_of gl_rows_range | exact glB_of (sc := defScope srows)))
  | ((with_reducible show eid _ _ (Expr.Call (Expr.Name "range" _) [_, _] _ _) _ _ _); refine eid_range2 (b_range (by assumption)) ?_ (hg := by first | exact gl_of gl_rows_range | exact glB_of (sc := defScope srows)))
  | ((with_reducible show eid _ _ _ _ _ _); refine eid_of ?_)
  | fail)
local macro_rules | `(tactic| walk_at "pd.par") => `(tactic| first
  | ((with_reducible show sd _ (Stmt.Assign [Expr.Tuple [Expr.Name "_law_at" _, Expr.Name "_law_form" _] _ _] (Expr.Tuple [_, _] _ _) _) _ _ _); refine sd_par2 rfl sc_rows.nd v_rows_at v_rows_form (by decide +kernel) (by decide +kernel) (by decide) ?_)
  | fail)
theorem ok_rows (T : T0 w K mg) : CallD P w K mg base 5 (He.ga K "_law_rows") 2 [] spDRows := by
  obtain ⟨fd, F⟩ := f_rows T
  refine CallD.mk0 (ps := ["_law_deal_here", "_law_most"]) F (fun _ _ _ _ _ _ us hl => match us, hl with | [_, _], _ => rfl) (fnD_of F sc_rows fun cdv A outer s H F0 μ ds Qd Ed hr hl h => ?_)
  obtain ⟨p, q, μr, most, rfl, hD, m0, m1, kk⟩ := h
  have hu := hr.units
  have hu0 := Nat.lt_of_le_of_lt (Nat.le_add_right _ 64) hr.units
  show sds _ _ (some (.ref p) :: some (.int most) :: List.replicate 9 none) _ _
  refine sds_cons ?_
  walk_at "pdS"
  refine ⟨p, q, μr, rfl, hD, fun rs0 g0 μ1 hok0 hne0 hlen0 hD1 => ?_⟩
  walk_at "pdS"
  refine sds_cut (fun δ' μ' => ∃ (rs : List Rw) (g : Addr), δ' = [some (.ref p), some (.int most), some (.ref g), none, none, none, none, none, none, none, none] ∧ Deal p q ((g, .lst (rs.map tupR)) :: μr) μ' ∧ (∀ r ∈ rs, okR 5 r) ∧ rs ≠ [] ∧ rs.length ≤ 20) ?_ ?_
  · walk_at "pd"
    refine ⟨p, q, _, _, rfl, hD1, by decide, by decide, fun r μ2 r0 r1 hD2 => ?_⟩
    walk_at "pd"
    refine ifd (fun h1 => ?_) (fun h1 => ?_)
    · obtain ⟨l2, m2, hL2, rfl⟩ := hD2
      refine sds_drop (μa := dealM p q l2 m2) ?_
      refine sds_cons ?_
      walk_at "pd"
      refine lcd_allN (Deal p q μr) (fun r => ∃ rw : Rw, r = tupR rw ∧ okR 5 rw) ?_
      walk_at "pd"
      refine ⟨p, q, _, _, rfl, ⟨l2, m2, hL2, rfl⟩, by omega, by omega, fun r3 μ3 r30 r31 hD3 => ?_⟩
      walk_at "pd"
      refine ⟨1 + r3, rfl, by omega, by omega, by rw [List.length_map, List.length_range]; omega, hD3, fun _ _ => trivial, fun d hd μ4 hD4 => ?_, fun acc μ4 hacc hlen4 hD4 => ?_⟩
      · walk_at "pd"
        refine ⟨rfl, ?_⟩
        walk_at "pd"
        exact ⟨p, q, μr, rfl, hD4, fun k ts ws a μ5 hro h1 h2 hD5 => ⟨⟨⟨k, ts, ws, a⟩, rfl, hro, h1, Nat.le_succ_of_le h2⟩, hD5⟩⟩
      · rw [List.length_map, List.length_range] at hlen4
        obtain ⟨rs, rfl, hrs, hl4⟩ := maps_of hacc
        rw [List.length_map] at hlen4
        obtain ⟨l4, m4, hL4, rfl⟩ := hD4
        intro gg
        refine sds_mu (dealM p q l4 m4 ++ (gg, .lst (rs.map tupR)) :: μr) List.perm_middle.symm ?_
        walk_at "pd"
        exact ⟨rs, gg, rfl, ⟨l4, m4, hL4, rfl⟩, hrs, fun e => by rw [e] at hlen4; rw [List.length_nil] at hlen4; omega, by omega⟩
    · walk_at "pd"
      exact ⟨rs0, g0, rfl, hD2, hok0, hne0, by omega⟩
  rintro δ' μ2 ⟨rs, g, rfl, hD2, hok, hne, hlen⟩
  refine sds_cons ?_
  refine sd_for rfl ?_
  walk_at "pd"
  refine ⟨p, q, _, _, rfl, hD2, by decide, by decide, fun n μ3 n0 n1 hD3 => ?_⟩
  walk_at "pd"
  refine ⟨n, rfl, by omega, by omega, fun i δ' μ' => ∃ (rs : List Rw) (x3 x4 x5 x6 x7 x8 x9 x10 : Option D), δ' = [some (.ref p), some (.int most), some (.ref g), x3, x4, x5, x6, x7, x8, x9, x10] ∧ Deal p q ((g, .lst (rs.map tupR)) :: μr) μ' ∧ (∀ r ∈ rs, okR (5 + i) r) ∧ rs ≠ [] ∧ rs.length ≤ 20 + i,
    ⟨rs, _, _, _, _, _, _, _, _, rfl, hD3, hok, hne, hlen⟩, fun _ _ _ _ _ => trivial, ?_, ?_⟩
  · rintro i d δ' μ' hd ⟨rs, x3, x4, x5, x6, x7, x8, x9, x10, rfl, ⟨l4, m4, hL4, rfl⟩, hok, hne, hlen⟩
    have hi : i < n.toNat := by
      have := (List.getElem?_eq_some_iff.mp hd).1
      rw [List.length_map, List.length_range] at this
      exact this
    walk_at "pd"
    have hne0 : 0 < rs.length := List.length_pos_iff.mpr hne
    refine ⟨p, q, _, _, rfl, ⟨l4, m4, hL4, rfl⟩, by rw [List.length_map]; omega, by rw [List.length_map]; omega, fun at_ μ5 a0 a1 hD5 => ?_⟩
    rw [List.length_map] at a1
    walk_at "pd"
    refine ⟨p, q, _, _, rfl, hD5, by decide, by decide, fun form μ6 f0 f1 hD6 => ?_⟩
    obtain ⟨l6, m6, hL6, rfl⟩ := hD6
    walk_at "pd"
    have hj : at_.toNat < rs.length := by omega
    obtain ⟨r, hr⟩ : ∃ r, rs[at_.toNat]? = some r := ⟨_, List.getElem?_eq_getElem hj⟩
    have hat : atI (rs.map tupR) at_ = some (tupR r) := by
      have := atI_nat (xs := rs.map tupR) (j := at_.toNat) (v := tupR r) (by rw [List.getElem?_map, hr]; rfl)
      rw [Int.toNat_of_nonneg a0] at this
      exact this
    have hrk := hok r (List.mem_of_getElem? hr)
    refine ixd_own (xs := rs.map tupR) (by simp) hat ?_
    obtain ⟨k, ts, ws, an⟩ := r
    have hro : RowOk k ts ws an := hrk.1
    have htl : ts.length ≤ 2 := hrk.2.1
    have hwl : ws.length ≤ 5 + i := hrk.2.2
    have hix : ixN (rs.map tupR).length at_ = some at_.toNat := by
      unfold ixN
      rw [if_pos a0, if_pos (by rw [List.length_map]; omega)]
    show gd _ _ (D.tup [.str k, .lst (ts.map .str), .lst (ws.map .str), .bl an]) _ _ _
    walk_at "pd"
    obtain rfl | rfl | rfl | rfl : form = 0 ∨ form = 1 ∨ form = 2 ∨ form = 3 := by omega
    · rw [if_pos (by decide)]
      walk_at "pd"
      refine ⟨p, q, _, rfl, ⟨l6, m6, hL6, rfl⟩, fun k' ts' ws' a' μ7 hro e1 e2 hD7 => ?_⟩
      obtain ⟨l7, m7, hL7, rfl⟩ := hD7
      walk_at "pd"
      refine mtd_insert (μ1 := dealM p q l7 m7) (small_lt (by rw [List.length_map]; omega)) (by omega) (by omega) ?_
      walk_at "pd"
      refine ⟨rs.take at_.toNat ++ [⟨k', ts', ws', a'⟩] ++ rs.drop at_.toNat, _, _, _, _, _, _, _, _, rfl, ⟨l7, m7, hL7, by rw [List.map_append, List.map_append, List.map_take, List.map_drop]; rfl⟩, fun r hr => ?_, by simp, ?_⟩
      · rcases List.mem_append.mp hr with h | h
        · rcases List.mem_append.mp h with h | h
          · exact (hok r (List.mem_of_mem_take h)).mono (by omega)
          · rw [List.mem_singleton.mp h]
            exact ⟨hro, e1, by show ws'.length ≤ _; omega⟩
        · exact (hok r (List.mem_of_mem_drop h)).mono (by omega)
      · rw [List.length_append, List.length_append, List.length_take, List.length_drop, List.length_singleton]; omega
    · rw [if_neg (by decide)]
      walk_at "pd"
      rw [if_pos (by decide)]
      walk_at "pd"
      refine ifd (fun h2 => ?_) (fun h2 => ?_)
      · rw [List.length_map] at h2
        walk_at "pd"
        refine ⟨p, q, _, _, rfl, ⟨l6, m6, hL6, rfl⟩, by rw [List.length_map]; omega, by rw [List.length_map]; omega, fun spot μ7 s0 s1 hD7 => ?_⟩
        rw [List.length_map] at s1
        obtain ⟨l7, m7, hL7, rfl⟩ := hD7
        walk_at "pd"
        rw [cutD_toL s0, cutD_fromL (by omega), ← List.map_take, ← List.map_drop]
        refine opd_cat (by rw [List.length_map, List.length_map, List.length_take, List.length_drop, sizeLine_eq]; omega) ?_
        rw [← List.map_append]
        walk_at "pd"
        refine ⟨g, at_, at_.toNat, rs.map tupR, dealM p q l7 m7, μr, rfl, rfl, rfl, hix, ?_⟩
        walk_at "pd"
        refine ⟨rs.set at_.toNat ⟨k, ts, ws.take spot.toNat ++ ws.drop (spot + 1).toNat, an⟩, _, _, _, _, _, _, _, _, rfl, ⟨l7, m7, hL7, by rw [List.map_set]; rfl⟩, set_okR hok ⟨⟨hro.kd, hro.te, fun d hd => ?_, fun e => ?_⟩, htl, ?_⟩, fun e => hne (by simpa using e), by rw [List.length_set]; omega⟩
        · rcases List.mem_append.mp hd with h | h
          · exact hro.de d (List.mem_of_mem_take h)
          · exact hro.de d (List.mem_of_mem_drop h)
        · have e1 := hro.an e
          show ws.take _ ++ ws.drop _ = []
          rw [e1]; simp
        · show (ws.take spot.toNat ++ ws.drop (spot + 1).toNat).length ≤ 5 + i + 1
          rw [List.length_append, List.length_take, List.length_drop]; omega
      · walk_at "pd"
        rw [if_neg (by decide)]
        walk_at "pd"
        rw [if_neg (by decide)]
        walk_at "pd"
        exact ⟨rs, _, _, _, _, _, _, _, _, rfl, ⟨l6, m6, hL6, rfl⟩, fun r hr => (hok r hr).mono (by omega), hne, by omega⟩
    · rw [if_neg (by decide)]
      walk_at "pd"
      rw [if_neg (by decide)]
      walk_at "pd"
      rw [if_pos (by decide)]
      walk_at "pd"
      refine opd_neNil hu0 ?_
      cases ts with
      | nil =>
        refine ⟨false, rfl, ?_⟩
        rw [if_neg (by decide)]
        walk_at "pd"
        rw [if_neg (by decide)]
        walk_at "pd"
        exact ⟨rs, _, _, _, _, _, _, _, _, rfl, ⟨l6, m6, hL6, rfl⟩, fun r hr => (hok r hr).mono (by omega), hne, by omega⟩
      | cons t0 ts =>
        refine ⟨true, rfl, ?_⟩
        rw [if_pos rfl]
        walk_at "pd"
        rw [cutD_fromL (by decide), ← List.map_drop]
        refine ⟨g, at_, at_.toNat, rs.map tupR, dealM p q l6 m6, μr, rfl, rfl, rfl, hix, ?_⟩
        walk_at "pd"
        refine ⟨rs.set at_.toNat ⟨k, ts, ws, an⟩, _, _, _, _, _, _, _, _, rfl, ⟨l6, m6, hL6, by rw [List.map_set]; rfl⟩, set_okR hok ⟨⟨hro.kd, fun t ht => hro.te t (List.mem_cons_of_mem _ ht), hro.de, hro.an⟩, by rw [List.length_cons] at htl; show ts.length ≤ 2; omega, by show ws.length ≤ 5 + i + 1; omega⟩, fun e => hne (by simpa using e), by rw [List.length_set]; omega⟩
    · rw [if_neg (by decide)]
      walk_at "pd"
      rw [if_neg (by decide)]
      walk_at "pd"
      rw [if_neg (by decide)]
      walk_at "pd"
      rw [if_pos (by decide)]
      walk_at "pd"
      cases an with
      | false =>
        rw [if_neg (by decide)]
        walk_at "pd"
        exact ⟨rs, _, _, _, _, _, _, _, _, rfl, ⟨l6, m6, hL6, rfl⟩, fun r hr => (hok r hr).mono (by omega), hne, by omega⟩
      | true =>
        rw [if_pos rfl]
        walk_at "pd"
        refine ⟨p, q, _, _, rfl, ⟨l6, m6, hL6, rfl⟩, by rw [List.length_map]; omega, by rw [List.length_map]; omega, fun spot μ7 s0 s1 hD7 => ?_⟩
        rw [List.length_map] at s1
        walk_at "pd"
        refine ⟨p, q, _, k, rfl, hD7, hro.kd, fun vs μ8 hvl hvs hD8 => ?_⟩
        obtain ⟨l8, m8, hL8, rfl⟩ := hD8
        walk_at "pd"
        rw [cutD_toL s0, cutD_toL (by decide), ← List.map_take, ← List.map_take]
        refine opd_cat (by rw [List.length_map, List.length_map, List.length_take, List.length_take, sizeLine_eq]; omega) ?_
        rw [← List.map_append]
        walk_at "pd"
        rw [cutD_fromL s0, ← List.map_drop]
        refine opd_cat (by rw [List.length_map, List.length_map, List.length_append, List.length_take, List.length_take, List.length_drop, sizeLine_eq]; omega) ?_
        rw [← List.map_append]
        walk_at "pd"
        refine ⟨g, at_, at_.toNat, rs.map tupR, dealM p q l8 m8, μr, rfl, rfl, rfl, hix, ?_⟩
        walk_at "pd"
        refine ⟨rs.set at_.toNat ⟨k, ts, ws.take spot.toNat ++ vs.take (1 : Int).toNat ++ ws.drop spot.toNat, true⟩, _, _, _, _, _, _, _, _, rfl, ⟨l8, m8, hL8, by rw [List.map_set]; rfl⟩, set_okR hok ⟨⟨hro.kd, hro.te, fun d hd => ?_, fun e => nomatch e⟩, htl, ?_⟩, fun e => hne (by simpa using e), by rw [List.length_set]; omega⟩
        · rcases List.mem_append.mp hd with h | h
          · rcases List.mem_append.mp h with h | h
            · exact hro.de d (List.mem_of_mem_take h)
            · exact hvs d (List.mem_of_mem_take h)
          · exact hro.de d (List.mem_of_mem_drop h)
        · show (ws.take spot.toNat ++ vs.take (1 : Int).toNat ++ ws.drop spot.toNat).length ≤ 5 + i + 1
          rw [List.length_append, List.length_append, List.length_take, List.length_take, List.length_drop]
          have : (1 : Int).toNat = 1 := rfl
          rw [this]; omega
  · rintro δ' μ' ⟨rs, x3, x4, x5, x6, x7, x8, x9, x10, rfl, ⟨l4, m4, hL4, rfl⟩, hok, hne, hlen⟩
    rw [List.length_map, List.length_range] at hok hlen
    refine sds_cons ?_
    refine sd_ret (ed_drop ?_)
    walk_at "pd"
    refine slc_own (xs := rs.map tupR) (by simp) ?_
    rw [cutD_toL (by omega), ← List.map_take]
    refine ⟨dealM p q l4 m4, _, μr, rfl, kk (rs.take most.toNat) _ (fun r hr => (hok r (List.mem_of_mem_take hr)).mono (by omega)) (fun e => ?_) (by rw [List.length_take]; omega) ⟨l4, m4, hL4, rfl⟩⟩
    have := congrArg List.length e
    rw [List.length_take, List.length_nil] at this
    have := List.length_pos_iff.mpr hne
    omega
end
end
section
variable {P : Program} {w : World} {K : PySem.W.Frag} {mg : Str → Option Value} {base : Heap}
/-! ### the text of a drawn store -/
theorem joinL_glue (S p q : List Nat) : ∀ (a b : List (List Nat)), TL.joinL S (a ++ (p ++ (S ++ q)) :: b) = TL.joinL S (a ++ p :: q :: b)
  | [], [] => rfl
  | [], c :: b => by
    show (p ++ (S ++ q)) ++ (S ++ TL.joinL S (c :: b)) = p ++ (S ++ (q ++ (S ++ TL.joinL S (c :: b))))
    simp only [List.append_assoc]
  | [x], b => by
    show x ++ (S ++ TL.joinL S ((p ++ (S ++ q)) :: b)) = x ++ (S ++ TL.joinL S (p :: q :: b))
    have := joinL_glue S p q [] b
    rw [List.nil_append, List.nil_append] at this
    rw [this]
  | x :: y :: a, b => by
    show x ++ (S ++ TL.joinL S (y :: a ++ (p ++ (S ++ q)) :: b)) = x ++ (S ++ TL.joinL S (y :: a ++ p :: q :: b))
    rw [joinL_glue S p q (y :: a) b]
def ifW (ts : List Str) : List Str := if ts = [] then [] else ["if " ++ Txt.join " and " ts]
def doW (ws : List Str) : List Str := if ws = [] then [] else ["do " ++ Txt.join " then " ws]
theorem words_text (k : Str) (ts ws : List Str) (a : Bool) : Txt.join " " ([k] ++ ifW ts ++ doW ws ++ [yesNo a]) = rowText k ts ws a := by
  unfold rowText
  refine TL.ext_tl ?_
  rw [TL.join_eq, TL.join_eq, TL.tl_join, TL.tl_join]
  unfold rowWords ifW doW ifPart doPart
  have e1 : ∀ x : Str, TL.tl (Str.ofString "if " ++ x) = TL.tl (Str.ofString "if") ++ (TL.tl (Str.ofString " ") ++ TL.tl x) := fun x => by
    rw [TL.tl_append, show TL.tl (Str.ofString "if ") = TL.tl (Str.ofString "if") ++ TL.tl (Str.ofString " ") by decide, List.append_assoc]
  have e2 : ∀ x : Str, TL.tl (Str.ofString "do " ++ x) = TL.tl (Str.ofString "do") ++ (TL.tl (Str.ofString " ") ++ TL.tl x) := fun x => by
    rw [TL.tl_append, show TL.tl (Str.ofString "do ") = TL.tl (Str.ofString "do") ++ TL.tl (Str.ofString " ") by decide, List.append_assoc]
  by_cases h1 : ts = [] <;> by_cases h2 : ws = []
  · rw [if_pos h1, if_pos h2, if_pos h1, if_pos h2]
  · rw [if_pos h1, if_neg h2, if_pos h1, if_neg h2]
    simp only [List.map_append, List.map_cons, List.map_nil, List.append_nil]
    rw [e2]
    have := joinL_glue (TL.tl (Str.ofString " ")) (TL.tl (Str.ofString "do")) (TL.tl (Txt.join " then " ws)) [TL.tl k] [TL.tl (yesNo a)]
    simpa using this
  · rw [if_neg h1, if_pos h2, if_neg h1, if_pos h2]
    simp only [List.map_append, List.map_cons, List.map_nil, List.append_nil]
    rw [e1]
    have := joinL_glue (TL.tl (Str.ofString " ")) (TL.tl (Str.ofString "if")) (TL.tl (Txt.join " and " ts)) [TL.tl k] [TL.tl (yesNo a)]
    simpa using this
  · rw [if_neg h1, if_neg h2, if_neg h1, if_neg h2]
    simp only [List.map_append, List.map_cons, List.map_nil]
    rw [e1, e2]
    have a1 := joinL_glue (TL.tl (Str.ofString " ")) (TL.tl (Str.ofString "if")) (TL.tl (Txt.join " and " ts)) [TL.tl k] [TL.tl (Str.ofString "do") ++ (TL.tl (Str.ofString " ") ++ TL.tl (Txt.join " then " ws)), TL.tl (yesNo a)]
    have a2 := joinL_glue (TL.tl (Str.ofString " ")) (TL.tl (Str.ofString "do")) (TL.tl (Txt.join " then " ws)) [TL.tl k, TL.tl (Str.ofString "if"), TL.tl (Txt.join " and " ts)] [TL.tl (yesNo a)]
    exact (by simpa using a1.trans a2)
theorem tjoin_le {k : Str} {ts : List Str} (hk : k ∈ kindsL) (h : ∀ t ∈ ts, TestOk k t) (hl : ts.length ≤ 2) : (ts ≠ [] → (Txt.join " and " ts).length ≤ 44) ∧ (ts.map (·.length)).sum + ts.length * (Str.ofString " and ").length ≤ 44 := by
  have kt : ∀ t ∈ RT.allTests, t.length ≤ 17 := by decide +kernel
  have l3 : (Str.ofString " and ").length = 5 := by decide
  have hh : ∀ t ∈ ts, t.length ≤ 17 := fun t ht => kt t (tests_all hk (h t ht))
  refine ⟨fun hne => ?_, ?_⟩
  · have := join_le (w := " and ") hne hh hl
    omega
  · have := sum_le hh
    rw [l3]
    omega
theorem djoin_le {k : Str} {ws : List Str} (hk : k ∈ kindsL) (h : ∀ d ∈ ws, d ∈ deedsOf k) (hl : ws.length ≤ 7) : (ws ≠ [] → (Txt.join " then " ws).length ≤ 84) ∧ (ws.map (·.length)).sum + ws.length * (Str.ofString " then ").length ≤ 84 := by
  have kd : ∀ t ∈ RT.allDeeds, t.length ≤ 6 := by decide +kernel
  have l3 : (Str.ofString " then ").length = 6 := by decide
  have hh : ∀ t ∈ ws, t.length ≤ 6 := fun t ht => kd t (deeds_all hk (h t ht))
  refine ⟨fun hne => ?_, ?_⟩
  · have := join_le (w := " then ") hne hh hl
    omega
  · have := sum_le hh
    rw [l3]
    omega
theorem words_le {k : Str} {ts ws : List Str} {a : Bool} (h : okR 7 ⟨k, ts, ws, a⟩) : (∀ x ∈ [k] ++ ifW ts ++ doW ws ++ [yesNo a], x.length ≤ 87) ∧ ([k] ++ ifW ts ++ doW ws ++ [yesNo a]).length ≤ 4 := by
  obtain ⟨hro, htl, hwl⟩ := h
  have hro : RowOk k ts ws a := hro
  have kk : ∀ k ∈ kindsL, k.length ≤ 5 := by decide +kernel
  have l1 : (Str.ofString "if ").length = 3 := by decide
  have l2 : (Str.ofString "do ").length = 3 := by decide
  have hy : (yesNo a).length ≤ 3 := by cases a <;> decide
  have hk := kk k hro.kd
  have ht := (tjoin_le hro.kd hro.te htl).1
  have hw := (djoin_le hro.kd hro.de hwl).1
  unfold ifW doW
  by_cases h1 : ts = [] <;> by_cases h2 : ws = []
  · rw [if_pos h1, if_pos h2]
    exact ⟨fun x hx => by
      simp only [List.append_nil, List.cons_append, List.nil_append, List.mem_cons, List.not_mem_nil, or_false] at hx
      rcases hx with rfl | rfl <;> omega, by simp⟩
  · rw [if_pos h1, if_neg h2]
    have := hw h2
    exact ⟨fun x hx => by
      simp only [List.append_nil, List.cons_append, List.nil_append, List.mem_cons, List.not_mem_nil, or_false] at hx
      rcases hx with rfl | rfl | rfl
      · omega
      · rw [Str.length_append]; omega
      · omega, by simp⟩
  · rw [if_neg h1, if_pos h2]
    have := ht h1
    exact ⟨fun x hx => by
      simp only [List.append_nil, List.cons_append, List.nil_append, List.mem_cons, List.not_mem_nil, or_false] at hx
      rcases hx with rfl | rfl | rfl
      · omega
      · rw [Str.length_append]; omega
      · omega, by simp⟩
  · rw [if_neg h1, if_neg h2]
    have := ht h1
    have := hw h2
    exact ⟨fun x hx => by
      simp only [List.append_nil, List.cons_append, List.nil_append, List.mem_cons, List.not_mem_nil, or_false] at hx
      rcases hx with rfl | rfl | rfl | rfl
      · omega
      · rw [Str.length_append]; omega
      · rw [Str.length_append]; omega
      · omega, by simp⟩
theorem rtxt_le {r : Rw} (h : okR 7 r) : r.txt.length ≤ 360 := by
  obtain ⟨k, ts, ws, a⟩ := r
  obtain ⟨h1, h2⟩ := words_le h
  have l1 : (Str.ofString " ").length = 1 := by decide
  have := join_le (w := " ") (by simp) h1 h2
  rw [words_text] at this
  show (rowText k ts ws a).length ≤ 360
  omega
end
section
variable {P : Program} {w : World} {K : PySem.W.Frag} {mg : Str → Option Value} {base : Heap}
def spDText : SpD := fun ds μ Q _ => ∃ rs : List Rw, ds = [.lst (rs.map tupR)] ∧ (∀ r ∈ rs, okR 7 r) ∧ rs.length ≤ 20 ∧ Q (.str (Txt.join "\n" (rs.map Rw.txt))) μ
section
abbrev N_text : List Str := ["_law_rows_here", "_law_found", "_law_kind", "_law_tests_here", "_law_deeds_here", "_law_answer", "_law_words"]
theorem sc_text : FnScope N_text ["_law_rows_here"] (defScope stext) := ⟨rfl, rfl, rfl, by decide +kernel, rfl, by decide +kernel, by decide +kernel⟩
theorem v_text_rows_here : Nm N_text (defScope stext) 0 "_law_rows_here" := ⟨rfl, by decide +kernel, by decide +kernel, by decide +kernel⟩
theorem v_text_found : Nm N_text (defScope stext) 1 "_law_found" := ⟨rfl, by decide +kernel, by decide +kernel, by decide +kernel⟩
theorem v_text_kind : Nm N_text (defScope stext) 2 "_law_kind" := ⟨rfl, by decide +kernel, by decide +kernel, by decide +kernel⟩
theorem v_text_tests_here : Nm N_text (defScope stext) 3 "_law_tests_here" := ⟨rfl, by decide +kernel, by decide +kernel, by decide +kernel⟩
theorem v_text_deeds_here : Nm N_text (defScope stext) 4 "_law_deeds_here" := ⟨rfl, by decide +kernel, by decide +kernel, by decide +kernel⟩
theorem v_text_answer : Nm N_text (defScope stext) 5 "_law_answer" := ⟨rfl, by decide +kernel, by decide +kernel, by decide +kernel⟩
theorem v_text_words : Nm N_text (defScope stext) 6 "_law_words" := ⟨rfl, by decide +kernel, by decide +kernel, by decide +kernel⟩
local macro_rules | `(tactic| walk_at "pd.nm") => `(tactic| first
  | ((with_reducible show ed _ (Expr.Name "_law_rows_here" _) _ _ _); first | refine ed_nm v_text_rows_here rfl ?_ | refine ed_nmB (sc := defScope stext) v_text_rows_here rfl ?_)
  | ((with_reducible show ed _ (Expr.Name "_law_found" _) _ _ _); first | refine ed_nm v_text_found rfl ?_ | refine ed_nmB (sc := defScope stext) v_text_found rfl ?_)
  | ((with_reducible show ed _ (Expr.Name "_law_kind" _) _ _ _); first | refine ed_nm v_text_kind rfl ?_ | refine ed_nmB (sc := defScope stext) v_text_kind rfl ?_)
  | ((with_reducible show ed _ (Expr.Name "_law_tests_here" _) _ _ _); first | refine ed_nm v_text_tests_here rfl ?_ | refine ed_nmB (sc := defScope stext) v_text_tests_here rfl ?_)
  | ((with_reducible show ed _ (Expr.Name "_law_deeds_here" _) _ _ _); first | refine ed_nm v_text_deeds_here rfl ?_ | refine ed_nmB (sc := defScope stext) v_text_deeds_here rfl ?_)
  | ((with_reducible show ed _ (Expr.Name "_law_answer" _) _ _ _); first | refine ed_nm v_text_answer rfl ?_ | refine ed_nmB (sc := defScope stext) v_text_answer rfl ?_)
  | ((with_reducible show ed _ (Expr.Name "_law_words" _) _ _ _); first | refine ed_nm v_text_words rfl ?_ | refine ed_nmB (sc := defScope stext) v_text_words rfl ?_)
  | fail)
local macro_rules | `(tactic| walk_at "pd.set") => `(tactic| first
  | ((with_reducible show sd _ (Stmt.Assign [Expr.Name "_law_found" _] _ _) _ _ _); refine sd_nm v_text_found sc_text.nd ?_)
  | ((with_reducible show sd _ (Stmt.Assign [Expr.Name "_law_kind" _] _ _) _ _ _); refine sd_nm v_text_kind sc_text.nd ?_)
  | ((with_reducible show sd _ (Stmt.Assign [Expr.Name "_law_tests_here" _] _ _) _ _ _); refine sd_nm v_text_tests_here sc_text.nd ?_)
  | ((with_reducible show sd _ (Stmt.Assign [Expr.Name "_law_deeds_here" _] _ _) _ _ _); refine sd_nm v_text_deeds_here sc_text.nd ?_)
  | ((with_reducible show sd _ (Stmt.Assign [Expr.Name "_law_answer" _] _ _) _ _ _); refine sd_nm v_text_answer sc_text.nd ?_)
  | ((with_reducible show sd _ (Stmt.Assign [Expr.Name "_law_words" _] _ _) _ _ _); refine sd_nm v_text_words sc_text.nd ?_)
  | fail)
local macro_rules | `(tactic| walk_at "pd.g") => `(tactic| first
  | ((with_reducible show gd _ (Expr.Name "_law_found" _) _ _ _ _); refine gd_nm v_text_found sc_text.nd ?_)
  | ((with_reducible show gd _ (Expr.Name "_law_kind" _) _ _ _ _); refine gd_nm v_text_kind sc_text.nd ?_)
  | ((with_reducible show gd _ (Expr.Name "_law_tests_here" _) _ _ _ _); refine gd_nm v_text_tests_here sc_text.nd ?_)
  | ((with_reducible show gd _ (Expr.Name "_law_deeds_here" _) _ _ _ _); refine gd_nm v_text_deeds_here sc_text.nd ?_)
  | ((with_reducible show gd _ (Expr.Name "_law_answer" _) _ _ _ _); refine gd_nm v_text_answer sc_text.nd ?_)
  | ((with_reducible show gd _ (Expr.Name "_law_words" _) _ _ _ _); refine gd_nm v_text_words sc_text.nd ?_)
  | fail)
local macro_rules | `(tactic| walk_at "pd.call") => `(tactic| first
  | ((with_reducible show ed _ (Expr.Call (Expr.Attribute _ "join" _) (_ :: _) _ _) _ _ _); with_reducible refine ed_bm PySem.F.plainAttrs_str PySem.F.slot_str_join PySem.F.type_str_join ?_)
  | ((with_reducible show ed _ (Expr.Call (Expr.Attribute _ "append" _) (_ :: _) _ _) _ _ _); with_reducible refine ed_bm PySem.F.plainAttrs_list PySem.F.slot_list_append PySem.F.type_list_append ?_)
  | fail)
local macro_rules | `(tactic| walk_at "pd.it") => `(tactic| first
  | ((with_reducible show eid _ _ _ _ _ _); refine eid_of ?_)
  | fail)
theorem ok_text (T : T0 w K mg) : CallD P w K mg base 3 (He.ga K "_law_text") 1 [] spDText := by
  obtain ⟨fd, F⟩ := f_text T
  refine CallD.mk0 (ps := ["_law_rows_here"]) F (fun _ _ _ _ _ _ us hl => match us, hl with | [_], _ => rfl) (fnD_of F sc_text fun cdv A outer s H F0 μ ds Qd Ed hr hl h => ?_)
  obtain ⟨rs, rfl, hok, hlen, kk⟩ := h
  have hu := hr.units
  have hu0 := Nat.lt_of_le_of_lt (Nat.le_add_right _ 64) hr.units
  show sds _ _ (some (.lst (rs.map tupR)) :: List.replicate 6 none) _ _
  refine sds_cons ?_
  refine sd_nm v_text_found sc_text.nd ?_
  refine ed_lstO ?_
  walk_at "pdS"
  intro g
  refine sds_cons ?_
  refine sd_for rfl ?_
  walk_at "pd"
  refine ⟨fun i δ' μ' => ∃ (x2 x3 x4 x5 x6 : Option D), δ' = [some (.lst (rs.map tupR)), some (.ref g), x2, x3, x4, x5, x6] ∧ μ' = (g, .lst (((rs.map Rw.txt).take i).map .str)) :: μ, ⟨_, _, _, _, _, rfl, rfl⟩, fun _ _ _ _ _ => trivial, ?_, ?_⟩
  · rintro i d δ' μ' hd ⟨x2, x3, x4, x5, x6, rfl, rfl⟩
    rw [List.getElem?_map] at hd
    obtain ⟨r, hr', rfl⟩ := Option.map_eq_some_iff.mp hd
    obtain ⟨k, ts, ws, an⟩ := r
    have hokr := hok _ (List.mem_of_getElem? hr')
    have hro : RowOk k ts ws an := hokr.1
    have htl : ts.length ≤ 2 := hokr.2.1
    have hwl : ws.length ≤ 7 := hokr.2.2
    show gd _ _ (D.tup [.str k, .lst (ts.map .str), .lst (ws.map .str), .bl an]) _ _ _
    walk_at "pdS"
    refine sds_cut (fun δ' μ' => δ' = [some (.lst (rs.map tupR)), some (.ref g), some (.str k), some (.lst (ts.map .str)), some (.lst (ws.map .str)), some (.bl an), some (.lst (([k] ++ ifW ts).map .str))] ∧ μ' = (g, .lst (((rs.map Rw.txt).take i).map .str)) :: μ) ?_ ?_
    · walk_at "pd"
      refine opd_neNil hu0 ?_
      unfold ifW
      cases ts with
      | nil =>
        refine ⟨false, rfl, ?_⟩
        rw [if_neg (by decide), if_pos rfl]
        walk_at "pd"
        exact ⟨rfl, rfl⟩
      | cons t0 ts =>
        refine ⟨true, rfl, ?_⟩
        rw [if_pos rfl, if_neg (by simp)]
        obtain ⟨j1, j2⟩ := tjoin_le hro.kd hro.te htl
        have j3 := j1 (by simp)
        walk_at "pd"
        refine mtd_join (by omega) ?_
        have l1 : (Str.ofString "if ").length = 3 := by decide
        refine opd_addS (small_le (by omega)) ?_
        walk_at "pd"
        exact ⟨rfl, rfl⟩
    rintro δ' μ' ⟨rfl, rfl⟩
    refine sds_cut (fun δ' μ' => δ' = [some (.lst (rs.map tupR)), some (.ref g), some (.str k), some (.lst (ts.map .str)), some (.lst (ws.map .str)), some (.bl an), some (.lst (([k] ++ ifW ts ++ doW ws).map .str))] ∧ μ' = (g, .lst (((rs.map Rw.txt).take i).map .str)) :: μ) ?_ ?_
    · walk_at "pd"
      refine opd_neNil hu0 ?_
      unfold doW
      cases ws with
      | nil =>
        refine ⟨false, rfl, ?_⟩
        rw [if_neg (by decide), if_pos rfl]
        walk_at "pd"
        refine opd_cat (by rw [sizeLine_eq]; have := (words_le hokr).2; simp at this ⊢; omega) ?_
        walk_at "pd"
        exact ⟨by rw [List.append_nil, List.append_nil]; rfl, rfl⟩
      | cons t0 ws =>
        refine ⟨true, rfl, ?_⟩
        rw [if_pos rfl, if_neg (by simp)]
        obtain ⟨j1, j2⟩ := djoin_le hro.kd hro.de hwl
        have j3 := j1 (by simp)
        walk_at "pd"
        refine mtd_join (by omega) ?_
        have l1 : (Str.ofString "do ").length = 3 := by decide
        refine opd_addS (small_le (by omega)) ?_
        walk_at "pd"
        refine opd_cat (by rw [sizeLine_eq]; have := (words_le hokr).2; simp at this ⊢; omega) ?_
        walk_at "pd"
        exact ⟨by rw [List.map_append (l₁ := [k] ++ ifW ts)]; rfl, rfl⟩
    rintro δ' μ' ⟨rfl, rfl⟩
    obtain ⟨w1, w2⟩ := words_le hokr
    have w3 := sum_le w1
    have l1 : (Str.ofString " ").length = 1 := by decide
    have hcat : (([k] ++ ifW ts ++ doW ws).map D.str).length + 1 ≤ sizeLine := by rw [sizeLine_eq, List.length_map]; rw [List.length_append] at w2; omega
    have hi : i < rs.length := (List.getElem?_eq_some_iff.mp hr').1
    have hfin : (rs.map Rw.txt).take (i + 1) = (rs.map Rw.txt).take i ++ [rowText k ts ws an] := by
      rw [List.take_add_one, List.getElem?_map, hr']; rfl
    have happ : ((((rs.map Rw.txt).take i).map D.str) ++ [D.str (rowText k ts ws an)]) = ((rs.map Rw.txt).take (i + 1)).map D.str := by rw [hfin, List.map_append]; rfl
    refine sds_cons ?_
    walk_at "pd"
    cases an with
    | true =>
      rw [if_pos rfl]
      walk_at "pd"
      refine opd_cat hcat ?_
      rw [show (([k] ++ ifW ts ++ doW ws).map D.str ++ [D.str "yes"] : List D) = ([k] ++ ifW ts ++ doW ws ++ [yesNo true]).map D.str by rw [List.map_append (l₁ := [k] ++ ifW ts ++ doW ws)]; rfl]
      walk_at "pd"
      refine mtd_join (by rw [l1]; omega) ?_
      rw [words_text]
      walk_at "pd"
      refine mtd_append (μ1 := []) (small_lt (by rw [List.length_map, List.length_take]; omega)) ?_
      rw [happ]
      walk_at "pd"
      exact ⟨_, _, _, _, _, rfl, rfl⟩
    | false =>
      rw [if_neg (by decide)]
      walk_at "pd"
      refine opd_cat hcat ?_
      rw [show (([k] ++ ifW ts ++ doW ws).map D.str ++ [D.str "no"] : List D) = ([k] ++ ifW ts ++ doW ws ++ [yesNo false]).map D.str by rw [List.map_append (l₁ := [k] ++ ifW ts ++ doW ws)]; rfl]
      walk_at "pd"
      refine mtd_join (by rw [l1]; omega) ?_
      rw [words_text]
      walk_at "pd"
      refine mtd_append (μ1 := []) (small_lt (by rw [List.length_map, List.length_take]; omega)) ?_
      rw [happ]
      walk_at "pd"
      exact ⟨_, _, _, _, _, rfl, rfl⟩
  · rintro δ' μ' ⟨x2, x3, x4, x5, x6, rfl, rfl⟩
    refine sds_freeze_lst (μ1 := []) (i := 1) rfl ?_
    rw [List.length_map, List.take_of_length_le (by rw [List.length_map]; exact Nat.le_refl _)]
    walk_at "pd"
    have hl1 : ∀ x ∈ rs.map Rw.txt, x.length ≤ 360 := fun x hx => by
      obtain ⟨r, hr2, rfl⟩ := List.mem_map.mp hx
      exact rtxt_le (hok r hr2)
    have hs := sum_le hl1
    have l2 : (Str.ofString "\n").length = 1 := by decide
    rw [List.length_map] at hs
    refine mtd_join (by rw [l2, List.length_map]; omega) ?_
    walk_at "pd"
    exact kk
end
end
section
variable {P : Program} {w : World} {K : PySem.W.Frag} {mg : Str → Option Value} {base : Heap}
/-! ### what holds of sorts -/
def thD : Option So → D
  | some s => s.d
  | none => .non
def markW (ws : List Str) (s : So) : Bool := if ws.getLastD "" = "points" then s.p else s.s
def spMark : SpD := fun ds μ Q _ => ∃ (ws : List Str) (s : So), ds = [.lst (ws.map .str), s.d] ∧ ws ≠ [] ∧ Q (.bl (markW ws s)) μ
section
abbrev N_mark_holds : List Str := ["words", "sort"]
theorem sc_mark_holds : FnScope N_mark_holds ["words", "sort"] (defScope smark_holds) := ⟨rfl, rfl, rfl, by decide +kernel, rfl, by decide +kernel, by decide +kernel⟩
theorem v_mark_holds_words : Nm N_mark_holds (defScope smark_holds) 0 "words" := ⟨rfl, by decide +kernel, by decide +kernel, by decide +kernel⟩
theorem v_mark_holds_sort : Nm N_mark_holds (defScope smark_holds) 1 "sort" := ⟨rfl, by decide +kernel, by decide +kernel, by decide +kernel⟩
local macro_rules | `(tactic| walk_at "pd.nm") => `(tactic| first
  | ((with_reducible show ed _ (Expr.Name "words" _) _ _ _); first | refine ed_nm v_mark_holds_words rfl ?_ | refine ed_nmB (sc := defScope smark_holds) v_mark_holds_words rfl ?_)
  | ((with_reducible show ed _ (Expr.Name "sort" _) _ _ _); first | refine ed_nm v_mark_holds_sort rfl ?_ | refine ed_nmB (sc := defScope smark_holds) v_mark_holds_sort rfl ?_)
  | fail)
local macro_rules | `(tactic| walk_at "pd.it") => `(tactic| first
  | ((with_reducible show eid _ _ _ _ _ _); refine eid_of ?_)
  | fail)
theorem ok_mark_holds (T : T0 w K mg) : CallD P w K mg base 1 (He.ga K "mark_holds") 2 [] spMark := by
  obtain ⟨fd, F⟩ := f_mark_holds T
  refine CallD.mk0 (ps := ["words", "sort"]) F (fun _ _ _ _ _ _ us hl => match us, hl with | [_, _], _ => rfl) (fnD_of F sc_mark_holds fun cdv A outer s H F0 μ ds Qd Ed hr hl h => ?_)
  obtain ⟨ws, so, rfl, hne, kk⟩ := h
  have hu := hr.units
  have hu0 := Nat.lt_of_le_of_lt (Nat.le_add_right _ 64) hr.units
  show sds _ _ [some (.lst (ws.map .str)), some (.tup [.bl so.p, .bl so.s, .bl so.l])] _ _
  refine sds_cons ?_
  walk_at "pd"
  have he : atI (ws.map D.str) (-1) = some (.str (ws.getLastD "")) := by
    obtain ⟨v, hv⟩ : ∃ v, ws = ws.dropLast ++ [v] := ⟨_, (List.dropLast_concat_getLast hne).symm⟩
    have e2 : ws.getLastD "" = v := by rw [hv, List.getLastD_concat]
    rw [e2, hv, List.map_append]
    exact atI_last _ _
  refine ixd_lst he ?_
  walk_at "pd"
  unfold markW at kk
  refine ifd (fun h1 => ?_) (fun h1 => ?_)
  · rw [if_pos h1] at kk
    walk_at "pd"
    exact kk
  · rw [if_neg h1] at kk
    walk_at "pd"
    exact kk
end
def negT (t : Str) : Bool := decide ((Txt.split t " ").headD "" = "not")
def plT (t : Str) : List Str := if negT t then (Txt.split t " ").drop 1 else Txt.split t " "
def winT (t : Str) : Bool := decide ((plT t).headD "" = "winner")
def holdT (t : Str) (h : So) (w : Option So) : Bool := (markW (plT t) (if winT t then w.getD h else h)) != negT t
theorem split_ne : ∀ t ∈ RT.allTests, Txt.split t " " ≠ [] ∧ plT t ≠ [] := by decide +kernel
theorem hd_of {l : List Str} (h : l ≠ []) : atI (l.map D.str) 0 = some (.str (l.headD "")) := by
  cases l with
  | nil => exact absurd rfl h
  | cons x l => exact atI_zero
def spTestH : SpD := fun ds μ Q _ => ∃ (t : Str) (h : So) (w : Option So), ds = [.str t, h.d, thD w] ∧ t ∈ RT.allTests ∧ (w = none → winT t = false) ∧ Q (.bl (holdT t h w)) μ
section
abbrev N_test_holds : List Str := ["test", "here", "there", "words", "plain", "is_so"]
theorem sc_test_holds : FnScope N_test_holds ["test", "here", "there"] (defScope stest_holds) := ⟨rfl, rfl, rfl, by decide +kernel, rfl, by decide +kernel, by decide +kernel⟩
theorem v_test_holds_test : Nm N_test_holds (defScope stest_holds) 0 "test" := ⟨rfl, by decide +kernel, by decide +kernel, by decide +kernel⟩
theorem v_test_holds_here : Nm N_test_holds (defScope stest_holds) 1 "here" := ⟨rfl, by decide +kernel, by decide +kernel, by decide +kernel⟩
theorem v_test_holds_there : Nm N_test_holds (defScope stest_holds) 2 "there" := ⟨rfl, by decide +kernel, by decide +kernel, by decide +kernel⟩
theorem v_test_holds_words : Nm N_test_holds (defScope stest_holds) 3 "words" := ⟨rfl, by decide +kernel, by decide +kernel, by decide +kernel⟩
theorem v_test_holds_plain : Nm N_test_holds (defScope stest_holds) 4 "plain" := ⟨rfl, by decide +kernel, by decide +kernel, by decide +kernel⟩
theorem v_test_holds_is_so : Nm N_test_holds (defScope stest_holds) 5 "is_so" := ⟨rfl, by decide +kernel, by decide +kernel, by decide +kernel⟩
theorem gl_test_holds_mark_holds : (defScope stest_holds).names.lookup ("mark_holds" : Str) = some .globalImplicit := by decide +kernel
local macro_rules | `(tactic| walk_at "pd.nm") => `(tactic| first
  | ((with_reducible show ed _ (Expr.Name "test" _) _ _ _); first | refine ed_nm v_test_holds_test rfl ?_ | refine ed_nmB (sc := defScope stest_holds) v_test_holds_test rfl ?_)
  | ((with_reducible show ed _ (Expr.Name "here" _) _ _ _); first | refine ed_nm v_test_holds_here rfl ?_ | refine ed_nmB (sc := defScope stest_holds) v_test_holds_here rfl ?_)
  | ((with_reducible show ed _ (Expr.Name "there" _) _ _ _); first | refine ed_nm v_test_holds_there rfl ?_ | refine ed_nmB (sc := defScope stest_holds) v_test_holds_there rfl ?_)
  | ((with_reducible show ed _ (Expr.Name "words" _) _ _ _); first | refine ed_nm v_test_holds_words rfl ?_ | refine ed_nmB (sc := defScope stest_holds) v_test_holds_words rfl ?_)
  | ((with_reducible show ed _ (Expr.Name "plain" _) _ _ _); first | refine ed_nm v_test_holds_plain rfl ?_ | refine ed_nmB (sc := defScope stest_holds) v_test_holds_plain rfl ?_)
  | ((with_reducible show ed _ (Expr.Name "is_so" _) _ _ _); first | refine ed_nm v_test_holds_is_so rfl ?_ | refine ed_nmB (sc := defScope stest_holds) v_test_holds_is_so rfl ?_)
  | fail)
local macro_rules | `(tactic| walk_at "pd.set") => `(tactic| first
  | ((with_reducible show sd _ (Stmt.Assign [Expr.Name "words" _] _ _) _ _ _); refine sd_nm v_test_holds_words sc_test_holds.nd ?_)
  | ((with_reducible show sd _ (Stmt.Assign [Expr.Name "plain" _] _ _) _ _ _); refine sd_nm v_test_holds_plain sc_test_holds.nd ?_)
  | ((with_reducible show sd _ (Stmt.Assign [Expr.Name "is_so" _] _ _) _ _ _); refine sd_nm v_test_holds_is_so sc_test_holds.nd ?_)
  | fail)
local macro_rules | `(tactic| walk_at "pd.g") => `(tactic| first
  | ((with_reducible show gd _ (Expr.Name "words" _) _ _ _ _); refine gd_nm v_test_holds_words sc_test_holds.nd ?_)
  | ((with_reducible show gd _ (Expr.Name "plain" _) _ _ _ _); refine gd_nm v_test_holds_plain sc_test_holds.nd ?_)
  | ((with_reducible show gd _ (Expr.Name "is_so" _) _ _ _ _); refine gd_nm v_test_holds_is_so sc_test_holds.nd ?_)
  | fail)
local macro_rules | `(tactic| walk_at "pd.call") => `(tactic| first
  | ((with_reducible show ed _ (Expr.Call (Expr.Attribute _ "split" _) (_ :: _) _ _) _ _ _); with_reducible refine ed_bm PySem.F.plainAttrs_str PySem.F.slot_str_split PySem.F.type_str_split ?_)
  | ((with_reducible show ed _ (Expr.Call (Expr.Name "mark_holds" _) (_ :: _) _ _) _ _ _); refine ed_callC ((ok_mark_holds (by assumption)).at_ _) (by assumption) (by decide) (g_mark_holds (by assumption)) ?_ (hg := by first | exact gl_of gl_test_holds_mark_holds))
  | fail)
local macro_rules | `(tactic| walk_at "pd.it") => `(tactic| first
  | ((with_reducible show eid _ _ _ _ _ _); refine eid_of ?_)
  | fail)
theorem ok_test_holds (T : T0 w K mg) : CallD P w K mg base 2 (He.ga K "test_holds") 3 [] spTestH := by
  obtain ⟨fd, F⟩ := f_test_holds T
  refine CallD.mk0 (ps := ["test", "here", "there"]) F (fun _ _ _ _ _ _ us hl => match us, hl with | [_, _, _], _ => rfl) (fnD_of F sc_test_holds fun cdv A outer s H F0 μ ds Qd Ed hr hl h => ?_)
  obtain ⟨t, so, wo, rfl, ht, hw, kk⟩ := h
  have hu := hr.units
  have hu0 := Nat.lt_of_le_of_lt (Nat.le_add_right _ 64) hr.units
  obtain ⟨n1, n2⟩ := split_ne t ht
  have htl := (show ∀ t ∈ RT.allTests, t.length ≤ 17 by decide +kernel) t ht
  show sds _ _ [some (.str t), some so.d, some (thD wo), none, none, none] _ _
  refine sds_cons ?_
  walk_at "pd"
  refine mtd_split (by decide) (small_le (by omega)) ?_
  walk_at "pdS"
  refine sds_cut (fun δ' μ' => δ' = [some (.str t), some so.d, some (thD wo), some (.lst ((Txt.split t " ").map .str)), some (.lst ((plT t).map .str)), none] ∧ μ' = μ) ?_ ?_
  · walk_at "pd"
    refine ixd_lst (hd_of n1) ?_
    walk_at "pd"
    refine ifd (fun h1 => ?_) (fun h1 => ?_)
    · walk_at "pd"
      rw [cutD_fromL (by decide), ← List.map_drop]
      exact ⟨by unfold plT negT; rw [decide_eq_true h1]; rfl, rfl⟩
    · walk_at "pd"
      exact ⟨by unfold plT negT; rw [decide_eq_false h1]; rfl, rfl⟩
  rintro δ' μ' ⟨rfl, rfl⟩
  refine sds_cut (fun δ' μ'' => δ' = [some (.str t), some so.d, some (thD wo), some (.lst ((Txt.split t " ").map .str)), some (.lst ((plT t).map .str)), some (.bl (markW (plT t) (if winT t then wo.getD so else so)))] ∧ μ'' = μ') ?_ ?_
  · walk_at "pd"
    refine ixd_lst (hd_of n2) ?_
    walk_at "pd"
    refine ifd (fun h1 => ?_) (fun h1 => ?_)
    · have hw1 : winT t = true := decide_eq_true h1
      cases wo with
      | none => have := hw rfl; rw [hw1] at this; cases this
      | some so2 =>
        walk_at "pd"
        refine ⟨plT t, so2, rfl, n2, ?_⟩
        walk_at "pd"
        rw [hw1]
        exact ⟨rfl, rfl⟩
    · have hw1 : winT t = false := decide_eq_false h1
      walk_at "pd"
      refine ⟨plT t, so, rfl, n2, ?_⟩
      walk_at "pd"
      rw [hw1]
      exact ⟨rfl, rfl⟩
  rintro δ' μ'' ⟨rfl, rfl⟩
  refine sds_cons ?_
  walk_at "pd"
  refine ixd_lst (hd_of n1) ?_
  walk_at "pd"
  refine opd_neB hu ?_
  exact kk
end
def markS (s : So) (d : Str) : So := if d ∈ (["point", "bare"] : List Str) then ⟨decide (d = "point"), s.s, s.l⟩ else if d ∈ (["strike", "wake"] : List Str) then ⟨s.p, decide (d = "strike"), s.l⟩ else s
def spMarked : SpD := fun ds μ Q _ => ∃ (s : So) (d : Str), ds = [s.d, .str d] ∧ Q (markS s d).d μ
section
abbrev N_marked : List Str := ["sort", "deed", "points", "struck", "live"]
theorem sc_marked : FnScope N_marked ["sort", "deed"] (defScope smarked) := ⟨rfl, rfl, rfl, by decide +kernel, rfl, by decide +kernel, by decide +kernel⟩
theorem v_marked_sort : Nm N_marked (defScope smarked) 0 "sort" := ⟨rfl, by decide +kernel, by decide +kernel, by decide +kernel⟩
theorem v_marked_deed : Nm N_marked (defScope smarked) 1 "deed" := ⟨rfl, by decide +kernel, by decide +kernel, by decide +kernel⟩
theorem v_marked_points : Nm N_marked (defScope smarked) 2 "points" := ⟨rfl, by decide +kernel, by decide +kernel, by decide +kernel⟩
theorem v_marked_struck : Nm N_marked (defScope smarked) 3 "struck" := ⟨rfl, by decide +kernel, by decide +kernel, by decide +kernel⟩
theorem v_marked_live : Nm N_marked (defScope smarked) 4 "live" := ⟨rfl, by decide +kernel, by decide +kernel, by decide +kernel⟩
local macro_rules | `(tactic| walk_at "pd.nm") => `(tactic| first
  | ((with_reducible show ed _ (Expr.Name "sort" _) _ _ _); first | refine ed_nm v_marked_sort rfl ?_ | refine ed_nmB (sc := defScope smarked) v_marked_sort rfl ?_)
  | ((with_reducible show ed _ (Expr.Name "deed" _) _ _ _); first | refine ed_nm v_marked_deed rfl ?_ | refine ed_nmB (sc := defScope smarked) v_marked_deed rfl ?_)
  | ((with_reducible show ed _ (Expr.Name "points" _) _ _ _); first | refine ed_nm v_marked_points rfl ?_ | refine ed_nmB (sc := defScope smarked) v_marked_points rfl ?_)
  | ((with_reducible show ed _ (Expr.Name "struck" _) _ _ _); first | refine ed_nm v_marked_struck rfl ?_ | refine ed_nmB (sc := defScope smarked) v_marked_struck rfl ?_)
  | ((with_reducible show ed _ (Expr.Name "live" _) _ _ _); first | refine ed_nm v_marked_live rfl ?_ | refine ed_nmB (sc := defScope smarked) v_marked_live rfl ?_)
  | fail)
local macro_rules | `(tactic| walk_at "pd.set") => `(tactic| first
  | ((with_reducible show sd _ (Stmt.Assign [Expr.Name "points" _] _ _) _ _ _); refine sd_nm v_marked_points sc_marked.nd ?_)
  | ((with_reducible show sd _ (Stmt.Assign [Expr.Name "struck" _] _ _) _ _ _); refine sd_nm v_marked_struck sc_marked.nd ?_)
  | ((with_reducible show sd _ (Stmt.Assign [Expr.Name "live" _] _ _) _ _ _); refine sd_nm v_marked_live sc_marked.nd ?_)
  | fail)
local macro_rules | `(tactic| walk_at "pd.g") => `(tactic| first
  | ((with_reducible show gd _ (Expr.Name "points" _) _ _ _ _); refine gd_nm v_marked_points sc_marked.nd ?_)
  | ((with_reducible show gd _ (Expr.Name "struck" _) _ _ _ _); refine gd_nm v_marked_struck sc_marked.nd ?_)
  | ((with_reducible show gd _ (Expr.Name "live" _) _ _ _ _); refine gd_nm v_marked_live sc_marked.nd ?_)
  | fail)
local macro_rules | `(tactic| walk_at "pd.it") => `(tactic| first
  | ((with_reducible show eid _ _ _ _ _ _); refine eid_of ?_)
  | fail)
theorem ok_marked (T : T0 w K mg) : CallD P w K mg base 1 (He.ga K "marked") 2 [] spMarked := by
  obtain ⟨fd, F⟩ := f_marked T
  refine CallD.mk0 (ps := ["sort", "deed"]) F (fun _ _ _ _ _ _ us hl => match us, hl with | [_, _], _ => rfl) (fnD_of F sc_marked fun cdv A outer s H F0 μ ds Qd Ed hr hl h => ?_)
  obtain ⟨so, d, rfl, kk⟩ := h
  have hu := hr.units
  show sds _ _ [some (.tup [.bl so.p, .bl so.s, .bl so.l]), some (.str d), none, none, none] _ _
  unfold markS at kk
  refine sds_cons ?_
  walk_at "pd"
  refine opd_inS ["point", "bare"] (.tup _) rfl ?_
  walk_at "pd"
  refine ifd (fun h1 => ?_) (fun h1 => ?_)
  · rw [if_pos h1] at kk
    walk_at "pd"
    exact kk
  · rw [if_neg h1] at kk
    walk_at "pd"
    refine opd_inS ["strike", "wake"] (.tup _) rfl ?_
    walk_at "pd"
    refine ifd (fun h1 => ?_) (fun h1 => ?_)
    · rw [if_pos h1] at kk
      walk_at "pd"
      exact kk
    · rw [if_neg h1] at kk
      walk_at "pd"
      exact kk
end
def careS (k : Str) (h : So) (w : Option So) : Bool := if k = "join" then !(h.l && (w.getD h).l) else (decide (k = "back") && h.l)
def spCare : SpD := fun ds μ Q _ => ∃ (k : Str) (h : So) (w : Option So), ds = [.str k, h.d, thD w] ∧ (w = none → k ≠ "join") ∧ Q (.bl (careS k h w)) μ
section
abbrev N_is_careless : List Str := ["kind", "here", "there"]
theorem sc_is_careless : FnScope N_is_careless ["kind", "here", "there"] (defScope sis_careless) := ⟨rfl, rfl, rfl, by decide +kernel, rfl, by decide +kernel, by decide +kernel⟩
theorem v_is_careless_kind : Nm N_is_careless (defScope sis_careless) 0 "kind" := ⟨rfl, by decide +kernel, by decide +kernel, by decide +kernel⟩
theorem v_is_careless_here : Nm N_is_careless (defScope sis_careless) 1 "here" := ⟨rfl, by decide +kernel, by decide +kernel, by decide +kernel⟩
theorem v_is_careless_there : Nm N_is_careless (defScope sis_careless) 2 "there" := ⟨rfl, by decide +kernel, by decide +kernel, by decide +kernel⟩
local macro_rules | `(tactic| walk_at "pd.nm") => `(tactic| first
  | ((with_reducible show ed _ (Expr.Name "kind" _) _ _ _); first | refine ed_nm v_is_careless_kind rfl ?_ | refine ed_nmB (sc := defScope sis_careless) v_is_careless_kind rfl ?_)
  | ((with_reducible show ed _ (Expr.Name "here" _) _ _ _); first | refine ed_nm v_is_careless_here rfl ?_ | refine ed_nmB (sc := defScope sis_careless) v_is_careless_here rfl ?_)
  | ((with_reducible show ed _ (Expr.Name "there" _) _ _ _); first | refine ed_nm v_is_careless_there rfl ?_ | refine ed_nmB (sc := defScope sis_careless) v_is_careless_there rfl ?_)
  | fail)
local macro_rules | `(tactic| walk_at "pd.it") => `(tactic| first
  | ((with_reducible show eid _ _ _ _ _ _); refine eid_of ?_)
  | fail)
theorem ok_is_careless (T : T0 w K mg) : CallD P w K mg base 1 (He.ga K "is_careless") 3 [] spCare := by
  obtain ⟨fd, F⟩ := f_is_careless T
  refine CallD.mk0 (ps := ["kind", "here", "there"]) F (fun _ _ _ _ _ _ us hl => match us, hl with | [_, _, _], _ => rfl) (fnD_of F sc_is_careless fun cdv A outer s H F0 μ ds Qd Ed hr hl h => ?_)
  obtain ⟨k, so, wo, rfl, hw, kk⟩ := h
  have hu := hr.units
  show sds _ _ [some (.str k), some (.tup [.bl so.p, .bl so.s, .bl so.l]), some (thD wo)] _ _
  unfold careS at kk
  refine sds_cons ?_
  walk_at "pd"
  refine ifd (fun h1 => ?_) (fun h1 => ?_)
  · rw [if_pos h1] at kk
    cases wo with
    | none => exact absurd h1 (hw rfl)
    | some w2 =>
      show sds _ _ [some (.str k), some (.tup [.bl so.p, .bl so.s, .bl so.l]), some (.tup [.bl w2.p, .bl w2.s, .bl w2.l])] _ _
      obtain ⟨wp, ws, wl⟩ := w2
      obtain ⟨sp, ss, sl⟩ := so
      walk_at "pd"
      cases sl with
      | true =>
        rw [if_pos rfl]
        walk_at "pd"
        exact kk
      | false =>
        rw [if_neg (show ¬ (false = true) by decide)]
        refine ⟨_, rfl, ?_⟩
        exact kk
  · rw [if_neg h1] at kk
    obtain ⟨sp, ss, sl⟩ := so
    walk_at "pd"
    refine ifd (fun h2 => ?_) (fun h2 => ?_)
    · rw [decide_eq_true h2] at kk
      walk_at "pd"
      exact kk
    · rw [decide_eq_false h2] at kk
      exact kk
end
end
section
variable {P : Program} {w : World} {K : PySem.W.Frag} {mg : Str → Option Value} {base : Heap}
/-! ### rows that are done -/
def fitR (k : Str) (h : So) (w : Option So) (r : Rw) : Bool := decide (r.k = k) && r.ts.all fun t => holdT t h w
def rowAt (rs : List Rw) (k : Str) (h : So) (w : Option So) : Option Nat := rs.findIdx? (fitR k h w)
def natO : Option Nat → D
  | none => .non
  | some i => .int (i : Nat)
theorem win_not {k t : Str} (hk : k ≠ "join") (h : TestOk k t) : winT t = false := by
  have key : ∀ t ∈ (["points", "struck"] : List Str), winT t = false ∧ winT ("not " ++ t) = false := by decide +kernel
  have e : testsOf k = (["points", "struck"] : List Str) := by unfold testsOf; rw [if_neg hk]
  rcases h with h | ⟨t0, h, rfl⟩
  · rw [e] at h; exact (key t h).1
  · rw [e] at h; exact (key t0 h).2
def spRowDone (K : PySem.W.Frag) : SpD := fun ds μ Q _ => ∃ (rs : List Rw) (k : Str) (h : So) (w : Option So), ds = [storeD K rs, .str k, h.d, thD w] ∧ (∀ r ∈ rs, okR 9 r) ∧ (w = none → k ≠ "join") ∧ Q (natO (rowAt rs k h w)) μ
section
abbrev N_row_done : List Str := ["store", "kind", "here", "there", "at", "row", "test"]
theorem sc_row_done : FnScope N_row_done ["store", "kind", "here", "there"] (defScope srow_done) := ⟨rfl, rfl, rfl, by decide +kernel, rfl, by decide +kernel, by decide +kernel⟩
theorem v_row_done_store : Nm N_row_done (defScope srow_done) 0 "store" := ⟨rfl, by decide +kernel, by decide +kernel, by decide +kernel⟩
theorem v_row_done_kind : Nm N_row_done (defScope srow_done) 1 "kind" := ⟨rfl, by decide +kernel, by decide +kernel, by decide +kernel⟩
theorem v_row_done_here : Nm N_row_done (defScope srow_done) 2 "here" := ⟨rfl, by decide +kernel, by decide +kernel, by decide +kernel⟩
theorem v_row_done_there : Nm N_row_done (defScope srow_done) 3 "there" := ⟨rfl, by decide +kernel, by decide +kernel, by decide +kernel⟩
theorem v_row_done_at : Nm N_row_done (defScope srow_done) 4 "at" := ⟨rfl, by decide +kernel, by decide +kernel, by decide +kernel⟩
theorem v_row_done_row : Nm N_row_done (defScope srow_done) 5 "row" := ⟨rfl, by decide +kernel, by decide +kernel, by decide +kernel⟩
theorem w_row_done_test : NmB N_row_done 6 "test" := ⟨rfl, by decide +kernel, by decide +kernel⟩
theorem gl_row_done_all : (defScope srow_done).names.lookup ("all" : Str) = some .globalImplicit := by decide +kernel
theorem gl_row_done_enumerate : (defScope srow_done).names.lookup ("enumerate" : Str) = some .globalImplicit := by decide +kernel
theorem sl_row_done_at : (defScope srow_done).names.lookup ("at" : Str) = some .local := by decide +kernel
theorem sl_row_done_row : (defScope srow_done).names.lookup ("row" : Str) = some .local := by decide +kernel
local macro_rules | `(tactic| walk_at "pd.nm") => `(tactic| first
  | ((with_reducible show ed _ (Expr.Name "store" _) _ _ _); first | refine ed_nm v_row_done_store rfl ?_ | refine ed_nmB (sc := defScope srow_done) v_row_done_store rfl ?_)
  | ((with_reducible show ed _ (Expr.Name "kind" _) _ _ _); first | refine ed_nm v_row_done_kind rfl ?_ | refine ed_nmB (sc := defScope srow_done) v_row_done_kind rfl ?_)
  | ((with_reducible show ed _ (Expr.Name "here" _) _ _ _); first | refine ed_nm v_row_done_here rfl ?_ | refine ed_nmB (sc := defScope srow_done) v_row_done_here rfl ?_)
  | ((with_reducible show ed _ (Expr.Name "there" _) _ _ _); first | refine ed_nm v_row_done_there rfl ?_ | refine ed_nmB (sc := defScope srow_done) v_row_done_there rfl ?_)
  | ((with_reducible show ed _ (Expr.Name "at" _) _ _ _); first | refine ed_nm v_row_done_at rfl ?_ | refine ed_nmB (sc := defScope srow_done) v_row_done_at rfl ?_)
  | ((with_reducible show ed _ (Expr.Name "row" _) _ _ _); first | refine ed_nm v_row_done_row rfl ?_ | refine ed_nmB (sc := defScope srow_done) v_row_done_row rfl ?_)
  | ((with_reducible show ed _ (Expr.Name "test" _) _ _ _); refine ed_nmC (sc := defScope srow_done) w_row_done_test rfl ?_)
  | ((with_reducible show ed _ (Expr.Name "enumerate" _) _ _ _); refine ed_ty (n := "enumerate") (b_enumerate (by assumption)) bb_enumerate ?_ (hg := by first | exact gl_of gl_row_done_enumerate))
  | fail)
local macro_rules | `(tactic| walk_at "pd.set") => `(tactic| first
  | ((with_reducible show sd _ (Stmt.Assign [Expr.Name "at" _] (Expr.ListComp _ _ _ _) _) _ _ _); refine sd_setLc (own := [("test", 6)]) (i := 4) rfl sc_row_done.nd rfl (by exact sl_row_done_at) (sw_true rfl (by exact sl_row_done_at) rfl (by decide +kernel)) (blkOk_by (N := N_row_done) (sc := defScope srow_done) (by decide +kernel)) ?_)
  | ((with_reducible show sd _ (Stmt.Assign [Expr.Name "row" _] (Expr.ListComp _ _ _ _) _) _ _ _); refine sd_setLc (own := [("test", 6)]) (i := 5) rfl sc_row_done.nd rfl (by exact sl_row_done_row) (sw_true rfl (by exact sl_row_done_row) rfl (by decide +kernel)) (blkOk_by (N := N_row_done) (sc := defScope srow_done) (by decide +kernel)) ?_)
  | ((with_reducible show sd _ (Stmt.Assign [Expr.Name "at" _] _ _) _ _ _); refine sd_nm v_row_done_at sc_row_done.nd ?_)
  | ((with_reducible show sd _ (Stmt.Assign [Expr.Name "row" _] _ _) _ _ _); refine sd_nm v_row_done_row sc_row_done.nd ?_)
  | fail)
local macro_rules | `(tactic| walk_at "pd.g") => `(tactic| first
  | ((with_reducible show gd _ (Expr.Name "at" _) _ _ _ _); refine gd_nm v_row_done_at sc_row_done.nd ?_)
  | ((with_reducible show gd _ (Expr.Name "row" _) _ _ _ _); refine gd_nm v_row_done_row sc_row_done.nd ?_)
  | ((with_reducible show gv _ (Expr.Name "test" _) _ _ _ _ _); refine gv_nmC (sc := defScope srow_done) w_row_done_test sc_row_done.nd (by decide) ?_)
  | fail)
local macro_rules | `(tactic| walk_at "pd.call") => `(tactic| first
  | ((with_reducible show ed _ (Expr.Call (Expr.Name "all" _) (_ :: _) _ _) _ _ _); refine ed_callB (id := "all") (b_all (by assumption)) bb_all ?_ (hg := by first | exact gl_of gl_row_done_all))
  | ((with_reducible show ed _ (Expr.Call (Expr.Name "test_holds" _) (_ :: _) _ _) _ _ _); refine ed_callC ((ok_test_holds (by assumption)).at_ _) (by assumption) (by decide) (g_test_holds (by assumption)) ?_ (hg := by first | exact glB_of (sc := defScope srow_done)))
  | fail)
local macro_rules | `(tactic| walk_at "pd.lc") => `(tactic| first
  | ((with_reducible show ed _ (Expr.ListComp _ [_] _ _) _ _ _); refine ed_lc (own := [("test", 6)]) [("test", 6)] rfl rfl sc_row_done.nd (blkOk_by (N := N_row_done) (sc := defScope srow_done) (by decide +kernel)) ?_)
  | fail)
local macro_rules | `(tactic| walk_at "pd.it") => `(tactic| first
  | ((with_reducible show eid _ _ (Expr.Call (Expr.Name "enumerate" _) [_] _ _) _ _ _); refine eid_enumS (b_enumerate (by assumption)) ?_ (hg := by first | exact gl_of gl_row_done_enumerate))
  | ((with_reducible show eid _ _ _ _ _ _); refine eid_of ?_)
  | fail)
local macro_rules | `(tactic| walk_at "pd.fld") => `(tactic| first
  | ((with_reducible show ed _ (Expr.Attribute _ "rows" _) _ _ _); first | (refine ed_fld (c_Course (by assumption)) (n_Course_rows (by assumption)) ?_; walk_at "pdF"; walk_at "pd.fldX") | (refine ed_fld (c_Store (by assumption)) (n_Store_rows (by assumption)) ?_; walk_at "pdF"; walk_at "pd.fldX"))
  | ((with_reducible show ed _ (Expr.Attribute _ "kind" _) _ _ _); refine ed_fld (c_Row (by assumption)) (n_Row_kind (by assumption)) ?_)
  | ((with_reducible show ed _ (Expr.Attribute _ "tests" _) _ _ _); refine ed_fld (c_Row (by assumption)) (n_Row_tests (by assumption)) ?_)
  | fail)
theorem ok_row_done (T : T0 w K mg) : CallD P w K mg base 3 (He.ga K "row_done") 4 [] (spRowDone K) := by
  obtain ⟨fd, F⟩ := f_row_done T
  refine CallD.mk0 (ps := ["store", "kind", "here", "there"]) F (fun _ _ _ _ _ _ us hl => match us, hl with | [_, _, _, _], _ => rfl) (fnD_of F sc_row_done fun cdv A outer s H F0 μ ds Qd Ed hr hl h => ?_)
  obtain ⟨rs, k, so, wo, rfl, hok, hw, kk⟩ := h
  have hu := hr.units
  show sds _ _ [some (storeD K rs), some (.str k), some so.d, some (thD wo), none, none, none] _ _
  unfold storeD
  refine sds_cons ?_
  refine sd_for rfl ?_
  walk_at "pd"
  refine ⟨fun i δ' μ' => ∃ x4 x5 x6, δ' = [some (storeD K rs), some (.str k), some so.d, some (thD wo), x4, x5, x6] ∧ μ' = μ ∧ ∀ j r, j < i → rs[j]? = some r → fitR k so wo r = false, ⟨_, _, _, rfl, rfl, fun _ _ h => absurd h (Nat.not_lt_zero _)⟩, fun _ _ _ _ _ => .tup _, ?_, ?_⟩
  · rintro i d δ2 μ2 hd ⟨x4, x5, x6, rfl, rfl, hf⟩
    obtain ⟨y, hy, rfl⟩ := enumD_get hd
    rw [rwDs_get] at hy
    cases hr2 : rs[i]? with
    | none => rw [hr2] at hy; cases hy
    | some r =>
      rw [hr2] at hy
      cases hy
      obtain ⟨hro, htl, hwl⟩ := hok r (List.mem_of_getElem? hr2)
      show gd _ _ (.tup [.int (i : Nat), .obj (He.ga K "Row") ["kind", "tests", "deeds", "answer"] [.str r.k, .tup (r.ts.map .str), .tup (r.ws.map .str), .bl r.a]]) _ _ _
      have hnext : fitR k so wo r = false → ∀ j r', j < i + 1 → rs[j]? = some r' → fitR k so wo r' = false := fun h j r' hj hr' => by
        rcases Nat.lt_or_ge j i with h1 | h1
        · exact hf j r' h1 hr'
        · have : j = i := by omega
          subst this
          rw [hr2] at hr'
          cases hr'
          exact h
      walk_at "pd"
      refine ifd (fun h1 => ?_) (fun h1 => ?_)
      · walk_at "pd"
        refine lcd_fm (fun _ => true) (fun d => .bl (holdT (strOf d) so wo)) ?_
        walk_at "pd"
        refine ⟨by rw [List.length_map]; omega, trivial, fun d hd2 => ?_, ?_⟩
        · obtain ⟨t, ht, rfl⟩ := List.mem_map.mp hd2
          walk_at "pd"
          refine ⟨rfl, rfl, fun _ => ?_⟩
          walk_at "pd"
          refine ⟨t, so, wo, rfl, tests_all hro.kd (hro.te t ht), fun e => win_not (h1 ▸ hw e) (hro.te t ht), ?_⟩
          exact ⟨rfl, rfl⟩
        rw [fm_bl (f := fun d => holdT (strOf d) so wo) fun _ => rfl]
        walk_at "pd"
        rw [all_map]
        have hal : ((r.ts.map D.str).all fun d => holdT (strOf d) so wo) = r.ts.all fun t => holdT t so wo := by rw [List.all_map]; rfl
        rw [hal]
        refine ifb (fun h2 => ?_) (fun h2 => ?_)
        · walk_at "pd"
          have hfit : fitR k so wo r = true := by unfold fitR; rw [decide_eq_true h1, h2]; rfl
          have e : rowAt rs k so wo = some i := by
            obtain ⟨hi, hg⟩ := List.getElem?_eq_some_iff.mp hr2
            refine List.findIdx?_eq_some_iff_getElem.mpr ⟨hi, by rw [hg]; exact hfit, fun j hj => ?_⟩
            rw [hf j rs[j] hj (List.getElem?_eq_getElem (by omega))]
            decide
          rw [e] at kk
          exact kk
        · walk_at "pd"
          exact ⟨_, _, _, rfl, rfl, hnext (by unfold fitR; rw [h2, Bool.and_false])⟩
      · walk_at "pd"
        exact ⟨_, _, _, rfl, rfl, hnext (by unfold fitR; rw [decide_eq_false h1]; rfl)⟩
  · rintro δ2 μ2 ⟨x4, x5, x6, rfl, rfl, hf⟩
    rw [enumD_len, rwDs_len] at hf
    walk_at "pd"
    have e : rowAt rs k so wo = none := by
      refine List.findIdx?_eq_none_iff.mpr fun r hr => ?_
      obtain ⟨j, hj, rfl⟩ := List.getElem_of_mem hr
      exact hf j _ hj (List.getElem?_eq_getElem hj)
    rw [e] at kk
    exact kk
end
end
section
variable {P : Program} {w : World} {K : PySem.W.Frag} {mg : Str → Option Value} {base : Heap}
/-! ### what a row answers and does -/
def yesAt (rs : List Rw) : Option Nat → Bool
  | none => false
  | some i => ((rs[i]?).map (·.a)).getD false
def wsAt (rs : List Rw) : Option Nat → List Str
  | none => []
  | some i => ((rs[i]?).map (·.ws)).getD []
theorem row_lt {rs : List Rw} {k : Str} {h : So} {w : Option So} {i : Nat} (e : rowAt rs k h w = some i) : i < rs.length := by
  unfold rowAt at e
  exact (List.findIdx?_eq_some_iff_getElem.mp e).1
theorem row_obj {K : PySem.W.Frag} {rs : List Rw} {i : Nat} {r : Rw} (h : rs[i]? = some r) : atI (rwDs (He.ga K "Row") rs) (i : Nat) = some (.obj (He.ga K "Row") ["kind", "tests", "deeds", "answer"] [.str r.k, .tup (r.ts.map .str), .tup (r.ws.map .str), .bl r.a]) :=
  atI_nat (by rw [rwDs_get, h]; rfl)
def spSays (K : PySem.W.Frag) : SpD := fun ds μ Q _ => ∃ (rs : List Rw) (o : Option Nat), ds = [storeD K rs, natO o] ∧ (∀ i, o = some i → i < rs.length) ∧ Q (.bl (yesAt rs o)) μ
section
abbrev N_says_yes : List Str := ["store", "at"]
theorem sc_says_yes : FnScope N_says_yes ["store", "at"] (defScope ssays_yes) := ⟨rfl, rfl, rfl, by decide +kernel, rfl, by decide +kernel, by decide +kernel⟩
theorem v_says_yes_store : Nm N_says_yes (defScope ssays_yes) 0 "store" := ⟨rfl, by decide +kernel, by decide +kernel, by decide +kernel⟩
theorem v_says_yes_at : Nm N_says_yes (defScope ssays_yes) 1 "at" := ⟨rfl, by decide +kernel, by decide +kernel, by decide +kernel⟩
local macro_rules | `(tactic| walk_at "pd.nm") => `(tactic| first
  | ((with_reducible show ed _ (Expr.Name "store" _) _ _ _); first | refine ed_nm v_says_yes_store rfl ?_ | refine ed_nmB (sc := defScope ssays_yes) v_says_yes_store rfl ?_)
  | ((with_reducible show ed _ (Expr.Name "at" _) _ _ _); first | refine ed_nm v_says_yes_at rfl ?_ | refine ed_nmB (sc := defScope ssays_yes) v_says_yes_at rfl ?_)
  | fail)
local macro_rules | `(tactic| walk_at "pd.it") => `(tactic| first
  | ((with_reducible show eid _ _ _ _ _ _); refine eid_of ?_)
  | fail)
local macro_rules | `(tactic| walk_at "pd.fld") => `(tactic| first
  | ((with_reducible show ed _ (Expr.Attribute _ "answer" _) _ _ _); refine ed_fld (c_Row (by assumption)) (n_Row_answer (by assumption)) ?_)
  | ((with_reducible show ed _ (Expr.Attribute _ "rows" _) _ _ _); first | (refine ed_fld (c_Course (by assumption)) (n_Course_rows (by assumption)) ?_; walk_at "pdF"; walk_at "pd.fldX") | (refine ed_fld (c_Store (by assumption)) (n_Store_rows (by assumption)) ?_; walk_at "pdF"; walk_at "pd.fldX"))
  | fail)
theorem ok_says_yes (T : T0 w K mg) : CallD P w K mg base 1 (He.ga K "says_yes") 2 [] (spSays K) := by
  obtain ⟨fd, F⟩ := f_says_yes T
  refine CallD.mk0 (ps := ["store", "at"]) F (fun _ _ _ _ _ _ us hl => match us, hl with | [_, _], _ => rfl) (fnD_of F sc_says_yes fun cdv A outer s H F0 μ ds Qd Ed hr hl h => ?_)
  obtain ⟨rs, o, rfl, ho, kk⟩ := h
  have hu := hr.units
  cases o with
  | none =>
    show sds _ _ [some (storeD K rs), some .non] _ _
    refine sds_cons ?_
    walk_at "pd"
    refine iteFr rfl ?_
    exact kk
  | some i =>
    have hi := ho i rfl
    have hri : rs[i]? = some rs[i] := List.getElem?_eq_getElem hi
    show sds _ _ [some (storeD K rs), some (.int (i : Nat))] _ _
    unfold storeD
    refine sds_cons ?_
    walk_at "pd"
    refine iteTr rfl ?_
    walk_at "pd"
    refine ixd_tup (row_obj hri) ?_
    walk_at "pd"
    have e : yesAt rs (some i) = rs[i].a := by show ((rs[i]?).map (·.a)).getD false = _; rw [hri]; rfl
    rw [e] at kk
    exact kk
end
def spDeedsO (K : PySem.W.Frag) : SpD := fun ds μ Q _ => ∃ (rs : List Rw) (o : Option Nat), ds = [storeD K rs, natO o] ∧ (∀ i, o = some i → i < rs.length) ∧ Q (.tup ((wsAt rs o).map .str)) μ
section
abbrev N_deeds_of : List Str := ["store", "at"]
theorem sc_deeds_of : FnScope N_deeds_of ["store", "at"] (defScope sdeeds_of) := ⟨rfl, rfl, rfl, by decide +kernel, rfl, by decide +kernel, by decide +kernel⟩
theorem v_deeds_of_store : Nm N_deeds_of (defScope sdeeds_of) 0 "store" := ⟨rfl, by decide +kernel, by decide +kernel, by decide +kernel⟩
theorem v_deeds_of_at : Nm N_deeds_of (defScope sdeeds_of) 1 "at" := ⟨rfl, by decide +kernel, by decide +kernel, by decide +kernel⟩
local macro_rules | `(tactic| walk_at "pd.nm") => `(tactic| first
  | ((with_reducible show ed _ (Expr.Name "store" _) _ _ _); first | refine ed_nm v_deeds_of_store rfl ?_ | refine ed_nmB (sc := defScope sdeeds_of) v_deeds_of_store rfl ?_)
  | ((with_reducible show ed _ (Expr.Name "at" _) _ _ _); first | refine ed_nm v_deeds_of_at rfl ?_ | refine ed_nmB (sc := defScope sdeeds_of) v_deeds_of_at rfl ?_)
  | fail)
local macro_rules | `(tactic| walk_at "pd.it") => `(tactic| first
  | ((with_reducible show eid _ _ _ _ _ _); refine eid_of ?_)
  | fail)
local macro_rules | `(tactic| walk_at "pd.fld") => `(tactic| first
  | ((with_reducible show ed _ (Expr.Attribute _ "deeds" _) _ _ _); first | (refine ed_fld (c_Row (by assumption)) (n_Row_deeds (by assumption)) ?_; walk_at "pdF"; walk_at "pd.fldX") | (refine ed_fld (c_Store (by assumption)) (n_Store_deeds (by assumption)) ?_; walk_at "pdF"; walk_at "pd.fldX"))
  | ((with_reducible show ed _ (Expr.Attribute _ "rows" _) _ _ _); first | (refine ed_fld (c_Course (by assumption)) (n_Course_rows (by assumption)) ?_; walk_at "pdF"; walk_at "pd.fldX") | (refine ed_fld (c_Store (by assumption)) (n_Store_rows (by assumption)) ?_; walk_at "pdF"; walk_at "pd.fldX"))
  | fail)
theorem ok_deeds_of (T : T0 w K mg) : CallD P w K mg base 1 (He.ga K "deeds_of") 2 [] (spDeedsO K) := by
  obtain ⟨fd, F⟩ := f_deeds_of T
  refine CallD.mk0 (ps := ["store", "at"]) F (fun _ _ _ _ _ _ us hl => match us, hl with | [_, _], _ => rfl) (fnD_of F sc_deeds_of fun cdv A outer s H F0 μ ds Qd Ed hr hl h => ?_)
  obtain ⟨rs, o, rfl, ho, kk⟩ := h
  have hu := hr.units
  cases o with
  | none =>
    show sds _ _ [some (storeD K rs), some .non] _ _
    refine sds_cons ?_
    walk_at "pd"
    refine iteTr rfl ?_
    walk_at "pd"
    exact kk
  | some i =>
    have hi := ho i rfl
    have hri : rs[i]? = some rs[i] := List.getElem?_eq_getElem hi
    show sds _ _ [some (storeD K rs), some (.int (i : Nat))] _ _
    unfold storeD
    refine sds_cons ?_
    walk_at "pd"
    refine iteFr rfl ?_
    walk_at "pd"
    refine ed_fld (c_Row T) (n_Row_deeds T) ?_
    walk_at "pd"
    refine ixd_tup (row_obj hri) ?_
    walk_at "pd"
    have e : wsAt rs (some i) = rs[i].ws := by show ((rs[i]?).map (·.ws)).getD [] = _; rw [hri]; rfl
    rw [e] at kk
    exact kk
end
def foldS (rs : List Rw) (k : Str) (h : So) (w : Option So) : So := (wsAt rs (rowAt rs k h w)).foldl markS h
def sortB (rs : List Rw) (k : Str) (h : So) (w : Option So) : So := if yesAt rs (rowAt rs k h w) = true then if k ∈ (["join", "back"] : List Str) then ⟨(foldS rs k h w).p, (foldS rs k h w).s, decide (k = "back")⟩ else foldS rs k h w else foldS rs k h w
def spSortB (K : PySem.W.Frag) : SpD := fun ds μ Q _ => ∃ (rs : List Rw) (k : Str) (h : So) (w : Option So), ds = [storeD K rs, .str k, h.d, thD w] ∧ (∀ r ∈ rs, okR 9 r) ∧ (w = none → k ≠ "join") ∧ Q (sortB rs k h w).d μ
section
abbrev N_sort_behind : List Str := ["store", "kind", "here", "there", "at", "sort", "deed"]
theorem sc_sort_behind : FnScope N_sort_behind ["store", "kind", "here", "there"] (defScope ssort_behind) := ⟨rfl, rfl, rfl, by decide +kernel, rfl, by decide +kernel, by decide +kernel⟩
theorem v_sort_behind_store : Nm N_sort_behind (defScope ssort_behind) 0 "store" := ⟨rfl, by decide +kernel, by decide +kernel, by decide +kernel⟩
theorem v_sort_behind_kind : Nm N_sort_behind (defScope ssort_behind) 1 "kind" := ⟨rfl, by decide +kernel, by decide +kernel, by decide +kernel⟩
theorem v_sort_behind_here : Nm N_sort_behind (defScope ssort_behind) 2 "here" := ⟨rfl, by decide +kernel, by decide +kernel, by decide +kernel⟩
theorem v_sort_behind_there : Nm N_sort_behind (defScope ssort_behind) 3 "there" := ⟨rfl, by decide +kernel, by decide +kernel, by decide +kernel⟩
theorem v_sort_behind_at : Nm N_sort_behind (defScope ssort_behind) 4 "at" := ⟨rfl, by decide +kernel, by decide +kernel, by decide +kernel⟩
theorem v_sort_behind_sort : Nm N_sort_behind (defScope ssort_behind) 5 "sort" := ⟨rfl, by decide +kernel, by decide +kernel, by decide +kernel⟩
theorem v_sort_behind_deed : Nm N_sort_behind (defScope ssort_behind) 6 "deed" := ⟨rfl, by decide +kernel, by decide +kernel, by decide +kernel⟩
theorem gl_sort_behind_deeds_of : (defScope ssort_behind).names.lookup ("deeds_of" : Str) = some .globalImplicit := by decide +kernel
theorem gl_sort_behind_marked : (defScope ssort_behind).names.lookup ("marked" : Str) = some .globalImplicit := by decide +kernel
theorem gl_sort_behind_row_done : (defScope ssort_behind).names.lookup ("row_done" : Str) = some .globalImplicit := by decide +kernel
theorem gl_sort_behind_says_yes : (defScope ssort_behind).names.lookup ("says_yes" : Str) = some .globalImplicit := by decide +kernel
local macro_rules | `(tactic| walk_at "pd.nm") => `(tactic| first
  | ((with_reducible show ed _ (Expr.Name "store" _) _ _ _); first | refine ed_nm v_sort_behind_store rfl ?_ | refine ed_nmB (sc := defScope ssort_behind) v_sort_behind_store rfl ?_)
  | ((with_reducible show ed _ (Expr.Name "kind" _) _ _ _); first | refine ed_nm v_sort_behind_kind rfl ?_ | refine ed_nmB (sc := defScope ssort_behind) v_sort_behind_kind rfl ?_)
  | ((with_reducible show ed _ (Expr.Name "here" _) _ _ _); first | refine ed_nm v_sort_behind_here rfl ?_ | refine ed_nmB (sc := defScope ssort_behind) v_sort_behind_here rfl ?_)
  | ((with_reducible show ed _ (Expr.Name "there" _) _ _ _); first | refine ed_nm v_sort_behind_there rfl ?_ | refine ed_nmB (sc := defScope ssort_behind) v_sort_behind_there rfl ?_)
  | ((with_reducible show ed _ (Expr.Name "at" _) _ _ _); first | refine ed_nm v_sort_behind_at rfl ?_ | refine ed_nmB (sc := defScope ssort_behind) v_sort_behind_at rfl ?_)
  | ((with_reducible show ed _ (Expr.Name "sort" _) _ _ _); first | refine ed_nm v_sort_behind_sort rfl ?_ | refine ed_nmB (sc := defScope ssort_behind) v_sort_behind_sort rfl ?_)
  | ((with_reducible show ed _ (Expr.Name "deed" _) _ _ _); first | refine ed_nm v_sort_behind_deed rfl ?_ | refine ed_nmB (sc := defScope ssort_behind) v_sort_behind_deed rfl ?_)
  | fail)
local macro_rules | `(tactic| walk_at "pd.set") => `(tactic| first
  | ((with_reducible show sd _ (Stmt.Assign [Expr.Name "at" _] _ _) _ _ _); refine sd_nm v_sort_behind_at sc_sort_behind.nd ?_)
  | ((with_reducible show sd _ (Stmt.Assign [Expr.Name "sort" _] _ _) _ _ _); refine sd_nm v_sort_behind_sort sc_sort_behind.nd ?_)
  | ((with_reducible show sd _ (Stmt.Assign [Expr.Name "deed" _] _ _) _ _ _); refine sd_nm v_sort_behind_deed sc_sort_behind.nd ?_)
  | fail)
local macro_rules | `(tactic| walk_at "pd.g") => `(tactic| first
  | ((with_reducible show gd _ (Expr.Name "at" _) _ _ _ _); refine gd_nm v_sort_behind_at sc_sort_behind.nd ?_)
  | ((with_reducible show gd _ (Expr.Name "sort" _) _ _ _ _); refine gd_nm v_sort_behind_sort sc_sort_behind.nd ?_)
  | ((with_reducible show gd _ (Expr.Name "deed" _) _ _ _ _); refine gd_nm v_sort_behind_deed sc_sort_behind.nd ?_)
  | fail)
local macro_rules | `(tactic| walk_at "pd.call") => `(tactic| first
  | ((with_reducible show ed _ (Expr.Call (Expr.Name "row_done" _) (_ :: _) _ _) _ _ _); refine ed_callC ((ok_row_done (by assumption)).at_ _) (by assumption) (by decide) (g_row_done (by assumption)) ?_ (hg := by first | exact gl_of gl_sort_behind_row_done))
  | ((with_reducible show ed _ (Expr.Call (Expr.Name "deeds_of" _) (_ :: _) _ _) _ _ _); refine ed_callC ((ok_deeds_of (by assumption)).at_ _) (by assumption) (by decide) (g_deeds_of (by assumption)) ?_ (hg := by first | exact gl_of gl_sort_behind_deeds_of))
  | ((with_reducible show ed _ (Expr.Call (Expr.Name "marked" _) (_ :: _) _ _) _ _ _); refine ed_callC ((ok_marked (by assumption)).at_ _) (by assumption) (by decide) (g_marked (by assumption)) ?_ (hg := by first | exact gl_of gl_sort_behind_marked))
  | ((with_reducible show ed _ (Expr.Call (Expr.Name "says_yes" _) (_ :: _) _ _) _ _ _); refine ed_callC ((ok_says_yes (by assumption)).at_ _) (by assumption) (by decide) (g_says_yes (by assumption)) ?_ (hg := by first | exact gl_of gl_sort_behind_says_yes))
  | fail)
local macro_rules | `(tactic| walk_at "pd.it") => `(tactic| first
  | ((with_reducible show eid _ _ _ _ _ _); refine eid_of ?_)
  | fail)
theorem ok_sort_behind (T : T0 w K mg) : CallD P w K mg base 4 (He.ga K "sort_behind") 4 [] (spSortB K) := by
  obtain ⟨fd, F⟩ := f_sort_behind T
  refine CallD.mk0 (ps := ["store", "kind", "here", "there"]) F (fun _ _ _ _ _ _ us hl => match us, hl with | [_, _, _, _], _ => rfl) (fnD_of F sc_sort_behind fun cdv A outer s H F0 μ ds Qd Ed hr hl h => ?_)
  obtain ⟨rs, k, so, wo, rfl, hok, hw, kk⟩ := h
  have hu := hr.units
  show sds _ _ [some (storeD K rs), some (.str k), some so.d, some (thD wo), none, none, none] _ _
  refine sds_cons ?_
  walk_at "pdS"
  refine ⟨rs, k, so, wo, rfl, hok, hw, ?_⟩
  walk_at "pdS"
  refine sds_cons ?_
  walk_at "pdS"
  refine sds_cons ?_
  refine sd_for rfl ?_
  walk_at "pd"
  refine ⟨rs, _, rfl, fun i hi => row_lt hi, ?_⟩
  walk_at "pd"
  refine ⟨fun i δ' μ' => ∃ x6, δ' = [some (storeD K rs), some (.str k), some so.d, some (thD wo), some (natO (rowAt rs k so wo)), some (((wsAt rs (rowAt rs k so wo)).take i).foldl markS so).d, x6] ∧ μ' = μ, ⟨_, rfl, rfl⟩, fun _ _ _ _ _ => trivial, ?_, ?_⟩
  · rintro i d δ' μ' hd ⟨x6, rfl, rfl⟩
    rw [List.getElem?_map] at hd
    obtain ⟨t, ht, rfl⟩ := Option.map_eq_some_iff.mp hd
    walk_at "pd"
    refine ⟨_, t, rfl, ?_⟩
    walk_at "pd"
    refine ⟨some (.str t), ?_, rfl⟩
    rw [List.take_add_one, ht, List.foldl_append]
    rfl
  · rintro δ' μ' ⟨x6, rfl, rfl⟩
    rw [List.length_map, List.take_length]
    have e0 : (wsAt rs (rowAt rs k so wo)).foldl markS so = foldS rs k so wo := rfl
    rw [e0]
    unfold sortB at kk
    revert kk
    generalize foldS rs k so wo = s1
    intro kk
    show sds _ _ [some (storeD K rs), some (.str k), some so.d, some (thD wo), some (natO (rowAt rs k so wo)), some (.tup [.bl s1.p, .bl s1.s, .bl s1.l]), x6] _ _
    walk_at "pd"
    refine ⟨rs, _, rfl, fun i hi => row_lt hi, ?_⟩
    walk_at "pd"
    refine ifb (fun h1 => ?_) (fun h1 => ?_)
    · rw [if_pos h1] at kk
      walk_at "pd"
      refine opd_inS ["join", "back"] (.tup _) rfl ?_
      walk_at "pd"
      refine ifd (fun h2 => ?_) (fun h2 => ?_)
      · rw [if_pos h2] at kk
        walk_at "pd"
        exact kk
      · rw [if_neg h2] at kk
        walk_at "pd"
        exact kk
    · rw [if_neg (by rw [h1]; decide)] at kk
      walk_at "pd"
      exact kk
end
/-- a list or a tuple of texts -/
def StrSeq (x : D) (ao : List Str) : Prop := x = .tup (ao.map .str) ∨ x = .lst (ao.map .str)
theorem StrSeq.seq {x : D} {ao : List Str} (h : StrSeq x ao) {μ : Mu} : SeqD μ x (ao.map .str) := by
  rcases h with rfl | rfl
  · exact .tup _
  · exact .lst _
def leftK (ao : List Str) : List Str := kindsL.filter fun k => !decide (k ∈ ao)
def spKinds : SpD := fun ds μ Q _ => ∃ (x : D) (ao : List Str), ds = [x] ∧ StrSeq x ao ∧ Q (.lst ((leftK ao).map .str)) μ
section
abbrev N_kinds_left : List Str := ["without", "kind"]
theorem sc_kinds_left : FnScope N_kinds_left ["without"] (defScope skinds_left) := ⟨rfl, rfl, rfl, by decide +kernel, rfl, by decide +kernel, by decide +kernel⟩
theorem v_kinds_left_without : Nm N_kinds_left (defScope skinds_left) 0 "without" := ⟨rfl, by decide +kernel, by decide +kernel, by decide +kernel⟩
theorem w_kinds_left_kind : NmB N_kinds_left 1 "kind" := ⟨rfl, by decide +kernel, by decide +kernel⟩
theorem gl_kinds_left_KINDS : (defScope skinds_left).names.lookup ("KINDS" : Str) = some .globalImplicit := by decide +kernel
local macro_rules | `(tactic| walk_at "pd.nm") => `(tactic| first
  | ((with_reducible show ed _ (Expr.Name "without" _) _ _ _); first | refine ed_nm v_kinds_left_without rfl ?_ | refine ed_nmB (sc := defScope skinds_left) v_kinds_left_without rfl ?_)
  | ((with_reducible show ed _ (Expr.Name "kind" _) _ _ _); refine ed_nmC (sc := defScope skinds_left) w_kinds_left_kind rfl ?_)
  | ((with_reducible show ed _ (Expr.Name "KINDS" _) _ _ _); refine ed_gtup (ys := cst_KINDS) (g_KINDS (by assumption)) (t_KINDS (by assumption)) ?_ (hg := by first | exact gl_of gl_kinds_left_KINDS | exact glB_of (sc := defScope skinds_left)))
  | fail)
local macro_rules | `(tactic| walk_at "pd.g") => `(tactic| first
  | ((with_reducible show gv _ (Expr.Name "kind" _) _ _ _ _ _); refine gv_nmC (sc := defScope skinds_left) w_kinds_left_kind sc_kinds_left.nd (by decide) ?_)
  | fail)
local macro_rules | `(tactic| walk_at "pd.lc") => `(tactic| first
  | ((with_reducible show ed _ (Expr.ListComp _ [_] _ _) _ _ _); refine ed_lc (own := [("kind", 1)]) [("kind", 1)] rfl rfl sc_kinds_left.nd (blkOk_by (N := N_kinds_left) (sc := defScope skinds_left) (by decide +kernel)) ?_)
  | fail)
local macro_rules | `(tactic| walk_at "pd.it") => `(tactic| first
  | ((with_reducible show eid _ _ _ _ _ _); refine eid_of ?_)
  | fail)
theorem ok_kinds_left (T : T0 w K mg) : CallD P w K mg base 1 (He.ga K "kinds_left") 1 [] spKinds := by
  obtain ⟨fd, F⟩ := f_kinds_left T
  refine CallD.mk0 (ps := ["without"]) F (fun _ _ _ _ _ _ us hl => match us, hl with | [_], _ => rfl) (fnD_of F sc_kinds_left fun cdv A outer s H F0 μ ds Qd Ed hr hl h => ?_)
  obtain ⟨x, ao, rfl, hx, kk⟩ := h
  have hu := hr.units
  show sds _ _ [some x, none] _ _
  refine sds_cons ?_
  walk_at "pd"
  refine lcd_fm (fun d => !decide (PD.strOf d ∈ ao)) (fun d => d) ?_
  walk_at "pd"
  refine ⟨by decide, trivial, fun d hd => ?_, ?_⟩
  · obtain ⟨t, ht, rfl⟩ := List.mem_map.mp (show d ∈ kindsL.map D.str from hd)
    walk_at "pd"
    refine opd_notInS ao hx.seq rfl ?_
    walk_at "pd"
    refine ⟨rfl, rfl, fun _ => ?_⟩
    walk_at "pd"
    exact ⟨rfl, rfl⟩
  · have e : (((kindsL.map D.str).filter fun d => !decide (PD.strOf d ∈ ao)).map fun d => d) = (leftK ao).map D.str := by
      rw [List.map_id', List.filter_map]; rfl
    refine Eq.mp ?_ kk
    exact congrArg (fun z => Qd (D.lst z) μ) e.symm
end
def goesB (rs : List Rw) (k : Str) (h : So) (w : Option So) : Bool := !careS k h w || !yesAt rs (rowAt rs k h w)
def spGoes (K : PySem.W.Frag) : SpD := fun ds μ Q _ => ∃ (rs : List Rw) (k : Str) (h : So) (w : Option So), ds = [storeD K rs, .str k, h.d, thD w] ∧ (∀ r ∈ rs, okR 9 r) ∧ (w = none → k ≠ "join") ∧ Q (.bl (goesB rs k h w)) μ
section
abbrev N_goes_on : List Str := ["store", "kind", "here", "there"]
theorem sc_goes_on : FnScope N_goes_on ["store", "kind", "here", "there"] (defScope sgoes_on) := ⟨rfl, rfl, rfl, by decide +kernel, rfl, by decide +kernel, by decide +kernel⟩
theorem v_goes_on_store : Nm N_goes_on (defScope sgoes_on) 0 "store" := ⟨rfl, by decide +kernel, by decide +kernel, by decide +kernel⟩
theorem v_goes_on_kind : Nm N_goes_on (defScope sgoes_on) 1 "kind" := ⟨rfl, by decide +kernel, by decide +kernel, by decide +kernel⟩
theorem v_goes_on_here : Nm N_goes_on (defScope sgoes_on) 2 "here" := ⟨rfl, by decide +kernel, by decide +kernel, by decide +kernel⟩
theorem v_goes_on_there : Nm N_goes_on (defScope sgoes_on) 3 "there" := ⟨rfl, by decide +kernel, by decide +kernel, by decide +kernel⟩
theorem gl_goes_on_is_careless : (defScope sgoes_on).names.lookup ("is_careless" : Str) = some .globalImplicit := by decide +kernel
theorem gl_goes_on_row_done : (defScope sgoes_on).names.lookup ("row_done" : Str) = some .globalImplicit := by decide +kernel
theorem gl_goes_on_says_yes : (defScope sgoes_on).names.lookup ("says_yes" : Str) = some .globalImplicit := by decide +kernel
local macro_rules | `(tactic| walk_at "pd.nm") => `(tactic| first
  | ((with_reducible show ed _ (Expr.Name "store" _) _ _ _); first | refine ed_nm v_goes_on_store rfl ?_ | refine ed_nmB (sc := defScope sgoes_on) v_goes_on_store rfl ?_)
  | ((with_reducible show ed _ (Expr.Name "kind" _) _ _ _); first | refine ed_nm v_goes_on_kind rfl ?_ | refine ed_nmB (sc := defScope sgoes_on) v_goes_on_kind rfl ?_)
  | ((with_reducible show ed _ (Expr.Name "here" _) _ _ _); first | refine ed_nm v_goes_on_here rfl ?_ | refine ed_nmB (sc := defScope sgoes_on) v_goes_on_here rfl ?_)
  | ((with_reducible show ed _ (Expr.Name "there" _) _ _ _); first | refine ed_nm v_goes_on_there rfl ?_ | refine ed_nmB (sc := defScope sgoes_on) v_goes_on_there rfl ?_)
  | fail)
local macro_rules | `(tactic| walk_at "pd.call") => `(tactic| first
  | ((with_reducible show ed _ (Expr.Call (Expr.Name "is_careless" _) (_ :: _) _ _) _ _ _); refine ed_callC ((ok_is_careless (by assumption)).at_ _) (by assumption) (by decide) (g_is_careless (by assumption)) ?_ (hg := by first | exact gl_of gl_goes_on_is_careless))
  | ((with_reducible show ed _ (Expr.Call (Expr.Name "says_yes" _) (_ :: _) _ _) _ _ _); refine ed_callC ((ok_says_yes (by assumption)).at_ _) (by assumption) (by decide) (g_says_yes (by assumption)) ?_ (hg := by first | exact gl_of gl_goes_on_says_yes))
  | ((with_reducible show ed _ (Expr.Call (Expr.Name "row_done" _) (_ :: _) _ _) _ _ _); refine ed_callC ((ok_row_done (by assumption)).at_ _) (by assumption) (by decide) (g_row_done (by assumption)) ?_ (hg := by first | exact gl_of gl_goes_on_row_done))
  | fail)
local macro_rules | `(tactic| walk_at "pd.it") => `(tactic| first
  | ((with_reducible show eid _ _ _ _ _ _); refine eid_of ?_)
  | fail)
theorem ok_goes_on (T : T0 w K mg) : CallD P w K mg base 4 (He.ga K "goes_on") 4 [] (spGoes K) := by
  obtain ⟨fd, F⟩ := f_goes_on T
  refine CallD.mk0 (ps := ["store", "kind", "here", "there"]) F (fun _ _ _ _ _ _ us hl => match us, hl with | [_, _, _, _], _ => rfl) (fnD_of F sc_goes_on fun cdv A outer s H F0 μ ds Qd Ed hr hl h => ?_)
  obtain ⟨rs, k, so, wo, rfl, hok, hw, kk⟩ := h
  have hu := hr.units
  show sds _ _ [some (storeD K rs), some (.str k), some so.d, some (thD wo)] _ _
  unfold goesB at kk
  refine sds_cons ?_
  walk_at "pd"
  refine ⟨k, so, wo, rfl, hw, ?_⟩
  walk_at "pd"
  cases hc : careS k so wo with
  | false =>
    rw [hc] at kk
    rw [if_pos (by decide)]
    exact kk
  | true =>
    rw [hc] at kk
    rw [if_neg (by decide)]
    walk_at "pd"
    refine ⟨rs, k, so, wo, rfl, hok, hw, ?_⟩
    walk_at "pd"
    refine ⟨rs, _, rfl, fun i hi => row_lt hi, ?_⟩
    walk_at "pd"
    exact kk
end
end
section
variable {P : Program} {w : World} {K : PySem.W.Frag} {mg : Str → Option Value} {base : Heap}
/-! ### events among records of some sorts -/
def SoSeq (x : D) (l : List So) : Prop := x = .tup (l.map So.d) ∨ x = .lst (l.map So.d)
theorem itd_so {Γ : Ct} {tg : Expr} {x : D} {δ : PD.Dl} {μ : Mu} {R : List D → (Mu → Prop) → Mu → Prop} {l : List So} (h : SoSeq x l) (q : R (l.map So.d) (fun _ => True) μ) : itd Γ tg x δ μ R := by
  rcases h with rfl | rfl
  · exact itd_tup q
  · exact itd_lst q
def evK (l : List So) (k : Str) (h : So) : List (Str × So × Option So) := (if k = "join" then l.map some else [none]).map fun w => (k, h, w)
def evsOf (l : List So) (ao : List Str) : List (Str × So × Option So) := (leftK ao).flatMap fun k => l.flatMap (evK l k)
def evT (e : Str × So × Option So) : D := .tup [.str e.1, e.2.1.d, thD e.2.2]
theorem fm_take {α β : Type} {f : α → List β} {ds : List α} {j : Nat} {d : α} (e : ds[j]? = some d) : (ds.take (j + 1)).flatMap f = (ds.take j).flatMap f ++ f d := by
  rw [List.take_add_one, e, List.flatMap_append]; simp
theorem fm_len {α β : Type} {f : α → List β} {m : Nat} : ∀ (ds : List α), (∀ d, (f d).length ≤ m) → (ds.flatMap f).length ≤ ds.length * m
  | [], _ => by simp
  | d :: ds, h => by
    have h1 := fm_len ds h
    have h2 := h d
    rw [List.flatMap_cons, List.length_append, List.length_cons, Nat.succ_mul]; omega
theorem evK_len {l : List So} (hl : l.length ≤ 8) (k : Str) (h : So) : (evK l k h).length ≤ 8 := by
  unfold evK
  rw [List.length_map]
  split
  · rw [List.length_map]; exact hl
  · decide
theorem leftK_len (ao : List Str) : (leftK ao).length ≤ 4 := List.length_filter_le _ _
theorem evJ_D (l : List So) (k : Str) (h : So) : ((l.map So.d).filter fun _ => true).map (fun d => D.tup [.str k, h.d, d]) = ((l.map some).map fun w => (k, h, w)).map evT := by
  rw [List.filter_eq_self.mpr fun _ _ => rfl, List.map_map, List.map_map, List.map_map]
  rfl
def spEvents : SpD := fun ds μ Q _ => ∃ (x y : D) (l : List So) (ao : List Str), ds = [x, y] ∧ SoSeq x l ∧ StrSeq y ao ∧ l.length ≤ 8 ∧ Q (.lst ((evsOf l ao).map evT)) μ
section
abbrev N_events_of : List Str := ["sorts", "without", "found", "kind", "here", "there"]
theorem sc_events_of : FnScope N_events_of ["sorts", "without"] (defScope sevents_of) := ⟨rfl, rfl, rfl, by decide +kernel, rfl, by decide +kernel, by decide +kernel⟩
theorem v_events_of_sorts : Nm N_events_of (defScope sevents_of) 0 "sorts" := ⟨rfl, by decide +kernel, by decide +kernel, by decide +kernel⟩
theorem v_events_of_without : Nm N_events_of (defScope sevents_of) 1 "without" := ⟨rfl, by decide +kernel, by decide +kernel, by decide +kernel⟩
theorem v_events_of_found : Nm N_events_of (defScope sevents_of) 2 "found" := ⟨rfl, by decide +kernel, by decide +kernel, by decide +kernel⟩
theorem v_events_of_kind : Nm N_events_of (defScope sevents_of) 3 "kind" := ⟨rfl, by decide +kernel, by decide +kernel, by decide +kernel⟩
theorem v_events_of_here : Nm N_events_of (defScope sevents_of) 4 "here" := ⟨rfl, by decide +kernel, by decide +kernel, by decide +kernel⟩
theorem w_events_of_there : NmB N_events_of 5 "there" := ⟨rfl, by decide +kernel, by decide +kernel⟩
theorem gl_events_of_kinds_left : (defScope sevents_of).names.lookup ("kinds_left" : Str) = some .globalImplicit := by decide +kernel
theorem sl_events_of_found : (defScope sevents_of).names.lookup ("found" : Str) = some .local := by decide +kernel
-- kind is a cell
-- here is a cell
local macro_rules | `(tactic| walk_at "pd.nm") => `(tactic| first
  | ((with_reducible show ed _ (Expr.Name "sorts" _) _ _ _); first | refine ed_nm v_events_of_sorts rfl ?_ | refine ed_nmB (sc := defScope sevents_of) v_events_of_sorts rfl ?_)
  | ((with_reducible show ed _ (Expr.Name "without" _) _ _ _); first | refine ed_nm v_events_of_without rfl ?_ | refine ed_nmB (sc := defScope sevents_of) v_events_of_without rfl ?_)
  | ((with_reducible show ed _ (Expr.Name "found" _) _ _ _); first | refine ed_nm v_events_of_found rfl ?_ | refine ed_nmB (sc := defScope sevents_of) v_events_of_found rfl ?_)
  | ((with_reducible show ed _ (Expr.Name "kind" _) _ _ _); first | refine ed_nm v_events_of_kind rfl ?_ | refine ed_nmB (sc := defScope sevents_of) v_events_of_kind rfl ?_)
  | ((with_reducible show ed _ (Expr.Name "here" _) _ _ _); first | refine ed_nm v_events_of_here rfl ?_ | refine ed_nmB (sc := defScope sevents_of) v_events_of_here rfl ?_)
  | ((with_reducible show ed _ (Expr.Name "there" _) _ _ _); refine ed_nmC (sc := defScope sevents_of) w_events_of_there rfl ?_)
  | fail)
local macro_rules | `(tactic| walk_at "pd.set") => `(tactic| first
  | ((with_reducible show sd _ (Stmt.Assign [Expr.Name "found" _] (Expr.ListComp _ _ _ _) _) _ _ _); refine sd_setLc (own := [("there", 5)]) (i := 2) rfl sc_events_of.nd rfl (by exact sl_events_of_found) (sw_true rfl (by exact sl_events_of_found) rfl (by decide +kernel)) (blkOk_by (N := N_events_of) (sc := defScope sevents_of) (by decide +kernel)) ?_)
  | ((with_reducible show sd _ (Stmt.Assign [Expr.Name "found" _] _ _) _ _ _); refine sd_nm v_events_of_found sc_events_of.nd ?_)
  | ((with_reducible show sd _ (Stmt.Assign [Expr.Name "kind" _] _ _) _ _ _); refine sd_nm v_events_of_kind sc_events_of.nd ?_)
  | ((with_reducible show sd _ (Stmt.Assign [Expr.Name "here" _] _ _) _ _ _); refine sd_nm v_events_of_here sc_events_of.nd ?_)
  | fail)
local macro_rules | `(tactic| walk_at "pd.g") => `(tactic| first
  | ((with_reducible show gd _ (Expr.Name "found" _) _ _ _ _); refine gd_nm v_events_of_found sc_events_of.nd ?_)
  | ((with_reducible show gd _ (Expr.Name "kind" _) _ _ _ _); refine gd_nm v_events_of_kind sc_events_of.nd ?_)
  | ((with_reducible show gd _ (Expr.Name "here" _) _ _ _ _); refine gd_nm v_events_of_here sc_events_of.nd ?_)
  | ((with_reducible show gv _ (Expr.Name "there" _) _ _ _ _ _); refine gv_nmC (sc := defScope sevents_of) w_events_of_there sc_events_of.nd (by decide) ?_)
  | fail)
local macro_rules | `(tactic| walk_at "pd.call") => `(tactic| first
  | ((with_reducible show ed _ (Expr.Call (Expr.Name "kinds_left" _) (_ :: _) _ _) _ _ _); refine ed_callC ((ok_kinds_left (by assumption)).at_ _) (by assumption) (by decide) (g_kinds_left (by assumption)) ?_ (hg := by first | exact gl_of gl_events_of_kinds_left))
  | ((with_reducible show ed _ (Expr.Call (Expr.Attribute _ "extend" _) (_ :: _) _ _) _ _ _); with_reducible refine ed_bm PySem.F.plainAttrs_list PySem.F.slot_list_extend PySem.F.type_list_extend ?_)
  | fail)
local macro_rules | `(tactic| walk_at "pd.lc") => `(tactic| first
  | ((with_reducible show ed _ (Expr.ListComp _ [_] _ _) _ _ _); refine ed_lc (own := [("there", 5)]) [("there", 5)] rfl rfl sc_events_of.nd (blkOk_by (N := N_events_of) (sc := defScope sevents_of) (by decide +kernel)) ?_)
  | fail)
local macro_rules | `(tactic| walk_at "pd.it") => `(tactic| first
  | ((with_reducible show eid _ _ _ _ _ _); refine eid_of ?_)
  | fail)
theorem ok_events_of (T : T0 w K mg) : CallD P w K mg base 3 (He.ga K "events_of") 2 [] spEvents := by
  obtain ⟨fd, F⟩ := f_events_of T
  refine CallD.mk0 (ps := ["sorts", "without"]) F (fun _ _ _ _ _ _ us hl => match us, hl with | [_, _], _ => rfl) (fnD_of F sc_events_of fun cdv A outer s H F0 μ ds Qd Ed hr hl h => ?_)
  obtain ⟨x, y, l, ao, rfl, hx, hy, hl8, kk⟩ := h
  have hu := hr.units
  show sds _ _ [some x, some y, none, none, none, none] _ _
  refine sds_cons ?_
  refine sd_nm v_events_of_found sc_events_of.nd ?_
  refine ed_lstO ?_
  walk_at "pdS"
  intro g
  refine sds_cons ?_
  refine sd_for rfl ?_
  walk_at "pd"
  refine ⟨y, ao, rfl, hy, ?_⟩
  walk_at "pd"
  refine ⟨fun i δ' μ' => ∃ (x3 x4 x5 : Option D), δ' = [some x, some y, some (.ref g), x3, x4, x5] ∧ μ' = (g, .lst ((((leftK ao).take i).flatMap fun k => l.flatMap (evK l k)).map evT)) :: μ, ⟨_, _, _, rfl, rfl⟩, fun _ _ _ _ _ => trivial, ?_, ?_⟩
  · rintro i d δ' μ' hd ⟨x3, x4, x5, rfl, rfl⟩
    rw [List.getElem?_map] at hd
    obtain ⟨k, hk, rfl⟩ := Option.map_eq_some_iff.mp hd
    walk_at "pdS"
    refine sds_cons ?_
    refine sd_for rfl ?_
    walk_at "pd"
    refine itd_so hx ?_
    refine ⟨fun j δ' μ' => ∃ (x4 x5 : Option D), δ' = [some x, some y, some (.ref g), some (.str k), x4, x5] ∧ μ' = (g, .lst (((((leftK ao).take i).flatMap fun k => l.flatMap (evK l k)) ++ (l.take j).flatMap (evK l k)).map evT)) :: μ, ⟨_, _, rfl, by rw [List.take_zero, List.flatMap_nil, List.append_nil]⟩, fun _ _ _ _ _ => trivial, ?_, ?_⟩
    · rintro j d δ' μ' hd ⟨x4, x5, rfl, rfl⟩
      rw [List.getElem?_map] at hd
      obtain ⟨h, hh, rfl⟩ := Option.map_eq_some_iff.mp hd
      have b1 : (((leftK ao).take i).flatMap fun k => l.flatMap (evK l k)).length ≤ 256 := by
        refine Nat.le_trans (fm_len (m := 64) _ fun k => Nat.le_trans (fm_len (m := 8) _ (evK_len hl8 k)) (by omega)) ?_
        have := leftK_len ao
        have := List.length_take_le i (leftK ao)
        have := List.length_take_le' i (leftK ao)
        omega
      have b2 : ((l.take j).flatMap (evK l k)).length ≤ 64 := by
        refine Nat.le_trans (fm_len (m := 8) _ (evK_len hl8 k)) ?_
        have := List.length_take_le' j l
        omega
      have hb : ((((((leftK ao).take i).flatMap fun k => l.flatMap (evK l k)) ++ (l.take j).flatMap (evK l k)).map evT)).length ≤ 320 := by
        rw [List.length_map, List.length_append]; omega
      walk_at "pd"
      refine lcd_fm (fun _ => true) (fun d => .tup [.str k, h.d, d]) ?_
      walk_at "pd"
      refine ifd (fun h1 => ?_) (fun h1 => ?_)
      · walk_at "pd"
        refine itd_so hx ?_
        refine ⟨by rw [List.length_map]; omega, trivial, fun d hd => ?_, ?_⟩
        · walk_at "pd"
          refine ⟨rfl, rfl, fun _ => ?_⟩
          walk_at "pd"
          exact ⟨rfl, rfl⟩
        · rw [evJ_D]
          walk_at "pd"
          refine mtd_extend (μ1 := []) ?hl1 ?_
          case hl1 =>
            refine small_le (Nat.le_trans (Nat.add_le_add hb (d := 8) ?_) (by decide))
            rw [List.length_map, List.length_map, List.length_map]
            exact hl8
          walk_at "pd"
          refine ⟨_, _, rfl, ?_⟩
          rw [fm_take hh, ← List.append_assoc, List.map_append (l₂ := evK l k h)]
          unfold evK
          rw [if_pos h1]
          rfl
      · walk_at "pd"
        refine ⟨by decide, trivial, fun d hd => ?_, ?_⟩
        · rw [List.mem_singleton.mp hd]
          walk_at "pd"
          refine ⟨rfl, rfl, fun _ => ?_⟩
          walk_at "pd"
          exact ⟨rfl, rfl⟩
        · walk_at "pd"
          refine mtd_extend (μ1 := []) ?hl2 ?_
          case hl2 => exact small_le (Nat.le_trans (Nat.add_le_add hb (Nat.le_refl 1)) (by decide))
          walk_at "pd"
          refine ⟨_, _, rfl, ?_⟩
          rw [fm_take hh, ← List.append_assoc, List.map_append (l₂ := evK l k h)]
          unfold evK
          rw [if_neg h1]
          rfl
    · rintro δ' μ' ⟨x4, x5, rfl, rfl⟩
      walk_at "pd"
      refine ⟨_, _, _, rfl, ?_⟩
      rw [List.length_map, List.take_length, fm_take hk]
  · rintro δ' μ' ⟨x3, x4, x5, rfl, rfl⟩
    rw [List.length_map, List.take_length]
    refine sds_freeze_lst (μ1 := []) (i := 2) rfl ?_
    walk_at "pd"
    exact kk
end
def allSo : List So := [⟨false, false, false⟩, ⟨false, false, true⟩, ⟨false, true, false⟩, ⟨false, true, true⟩, ⟨true, false, false⟩, ⟨true, false, true⟩, ⟨true, true, false⟩, ⟨true, true, true⟩]
def bothB : List Bool := [false, true]
def boolOf : D → Bool | .bl b => b | _ => false
def spAll : SpD := fun ds μ Q _ => ds = [] ∧ Q (.lst (allSo.map So.d)) μ
section
abbrev N_all_sorts : List Str := ["both", "points", "struck", "live"]
theorem sc_all_sorts : FnScope N_all_sorts [] (defScope sall_sorts) := ⟨rfl, rfl, rfl, by decide +kernel, rfl, by decide +kernel, by decide +kernel⟩
theorem v_all_sorts_both : Nm N_all_sorts (defScope sall_sorts) 0 "both" := ⟨rfl, by decide +kernel, by decide +kernel, by decide +kernel⟩
theorem w_all_sorts_points : NmB N_all_sorts 1 "points" := ⟨rfl, by decide +kernel, by decide +kernel⟩
theorem w_all_sorts_struck : NmB N_all_sorts 2 "struck" := ⟨rfl, by decide +kernel, by decide +kernel⟩
theorem w_all_sorts_live : NmB N_all_sorts 3 "live" := ⟨rfl, by decide +kernel, by decide +kernel⟩
-- both is a cell
local macro_rules | `(tactic| walk_at "pd.nm") => `(tactic| first
  | ((with_reducible show ed _ (Expr.Name "both" _) _ _ _); first | refine ed_nm v_all_sorts_both rfl ?_ | refine ed_nmB (sc := defScope sall_sorts) v_all_sorts_both rfl ?_)
  | ((with_reducible show ed _ (Expr.Name "points" _) _ _ _); refine ed_nmC (sc := defScope sall_sorts) w_all_sorts_points rfl ?_)
  | ((with_reducible show ed _ (Expr.Name "struck" _) _ _ _); refine ed_nmC (sc := defScope sall_sorts) w_all_sorts_struck rfl ?_)
  | ((with_reducible show ed _ (Expr.Name "live" _) _ _ _); refine ed_nmC (sc := defScope sall_sorts) w_all_sorts_live rfl ?_)
  | fail)
local macro_rules | `(tactic| walk_at "pd.set") => `(tactic| first
  | ((with_reducible show sd _ (Stmt.Assign [Expr.Name "both" _] _ _) _ _ _); refine sd_nm v_all_sorts_both sc_all_sorts.nd ?_)
  | fail)
local macro_rules | `(tactic| walk_at "pd.g") => `(tactic| first
  | ((with_reducible show gd _ (Expr.Name "both" _) _ _ _ _); refine gd_nm v_all_sorts_both sc_all_sorts.nd ?_)
  | ((with_reducible show gv _ (Expr.Name "points" _) _ _ _ _ _); refine gv_nmC (sc := defScope sall_sorts) w_all_sorts_points sc_all_sorts.nd (by decide) ?_)
  | ((with_reducible show gv _ (Expr.Name "struck" _) _ _ _ _ _); refine gv_nmC (sc := defScope sall_sorts) w_all_sorts_struck sc_all_sorts.nd (by decide) ?_)
  | ((with_reducible show gv _ (Expr.Name "live" _) _ _ _ _ _); refine gv_nmC (sc := defScope sall_sorts) w_all_sorts_live sc_all_sorts.nd (by decide) ?_)
  | fail)
local macro_rules | `(tactic| walk_at "pd.lc") => `(tactic| first
  | ((with_reducible show ed _ (Expr.ListComp _ [_, _, _] _ _) _ _ _); refine ed_lc3 (own := [("points", 1), ("struck", 2), ("live", 3)]) (vs1 := [2, 3]) (vs2 := [3]) [("points", 1), ("struck", 2), ("live", 3)] rfl rfl sc_all_sorts.nd (blkOk_by (N := N_all_sorts) (sc := defScope sall_sorts) (by decide +kernel)) (by decide) (by decide) ?_)
  | ((with_reducible show ed _ (Expr.ListComp _ [_] _ _) _ _ _); refine ed_lc (own := [("points", 1), ("struck", 2), ("live", 3)]) [("points", 1), ("struck", 2), ("live", 3)] rfl rfl sc_all_sorts.nd (blkOk_by (N := N_all_sorts) (sc := defScope sall_sorts) (by decide +kernel)) ?_)
  | fail)
local macro_rules | `(tactic| walk_at "pd.it") => `(tactic| first
  | ((with_reducible show eid _ _ _ _ _ _); refine eid_of ?_)
  | fail)
theorem ok_all_sorts (T : T0 w K mg) : CallD P w K mg base 1 (He.ga K "all_sorts") 0 [] spAll := by
  obtain ⟨fd, F⟩ := f_all_sorts T
  refine CallD.mk0 (ps := []) F (fun _ _ _ _ _ _ us hl => match us, hl with | [], _ => rfl) (fnD_of F sc_all_sorts fun cdv A outer s H F0 μ ds Qd Ed hr hl h => ?_)
  obtain ⟨rfl, kk⟩ := h
  have hu := hr.units
  show sds _ _ [none, none, none, none] _ _
  refine sds_cons ?_
  walk_at "pd"
  refine lcd3_fm (fun d => bothB.flatMap fun s => bothB.map fun l => D.tup [.bl (boolOf d), .bl s, .bl l]) ?_
  walk_at "pd"
  refine ⟨trivial, by decide, fun d hd acc1 N1 hl1 hN1 => ?_, kk⟩
  obtain ⟨p, rfl⟩ : ∃ b, d = .bl b := by
    rcases List.mem_cons.mp hd with rfl | hd
    · exact ⟨_, rfl⟩
    · rw [List.mem_singleton.mp hd]; exact ⟨_, rfl⟩
  walk_at "pd"
  refine lcdIn_fm (fun d => bothB.map fun l => D.tup [.bl p, .bl (boolOf d), .bl l]) ?_
  walk_at "pd"
  refine ⟨trivial, hl1, fun d hd acc2 N2 hl2 hN2 => ?_, hN1⟩
  obtain ⟨s2, rfl⟩ : ∃ b, d = .bl b := by
    rcases List.mem_cons.mp hd with rfl | hd
    · exact ⟨_, rfl⟩
    · rw [List.mem_singleton.mp hd]; exact ⟨_, rfl⟩
  walk_at "pd"
  refine lcdIn_fm (fun d => [D.tup [.bl p, .bl s2, .bl (boolOf d)]]) ?_
  walk_at "pd"
  refine ⟨trivial, hl2, fun d hd acc3 N3 hl3 hN3 => ?_, hN2⟩
  obtain ⟨l2, rfl⟩ : ∃ b, d = .bl b := by
    rcases List.mem_cons.mp hd with rfl | hd
    · exact ⟨_, rfl⟩
    · rw [List.mem_singleton.mp hd]; exact ⟨_, rfl⟩
  walk_at "pd"
  unfold lcdLf
  walk_at "pd"
  exact hN3
end
end
section
variable {P : Program} {w : World} {K : PySem.W.Frag} {mg : Str → Option Value} {base : Heap}
/-! ### sorts to which records come -/
def freshS : So := ⟨false, false, true⟩
inductive Rch (rs : List Rw) (ao : List Str) : So → Prop
  | fresh : Rch rs ao freshS
  | one {k h} : k ∈ kindsL → k ∉ ao → k ≠ "new" → k ≠ "join" → Rch rs ao h → goesB rs k h none = true → Rch rs ao (sortB rs k h none)
  | two {h w} : ("join" : Str) ∉ ao → Rch rs ao h → Rch rs ao w → goesB rs "join" h (some w) = true → Rch rs ao (sortB rs "join" h (some w))
theorem evs_mem {l : List So} {ao : List Str} {k : Str} {h : So} {w : Option So} : (k, h, w) ∈ evsOf l ao ↔ (k ∈ kindsL ∧ k ∉ ao) ∧ h ∈ l ∧ (if k = "join" then ∃ w' ∈ l, w = some w' else w = none) := by
  unfold evsOf evK leftK
  simp only [List.mem_flatMap, List.mem_map, List.mem_filter, Bool.not_eq_true', decide_eq_false_iff_not, Prod.mk.injEq]
  constructor
  · rintro ⟨k', hk', h', hh', w', hw', rfl, rfl, rfl⟩
    refine ⟨hk', hh', ?_⟩
    split at hw'
    · rename_i e
      rw [if_pos e]
      obtain ⟨w2, h2, rfl⟩ := List.mem_map.mp hw'
      exact ⟨w2, h2, rfl⟩
    · rename_i e
      rw [if_neg e]
      exact List.mem_singleton.mp hw'
  · rintro ⟨hk, hh, hw⟩
    refine ⟨k, hk, h, hh, w, ?_, rfl, rfl, rfl⟩
    split
    · rename_i e
      rw [if_pos e] at hw
      obtain ⟨w2, h2, rfl⟩ := hw
      exact List.mem_map.mpr ⟨w2, h2, rfl⟩
    · rename_i e
      rw [if_neg e] at hw
      exact List.mem_singleton.mpr hw
def ClosedS (rs : List Rw) (ao : List Str) (l : List So) : Prop := ∀ e ∈ evsOf l ao, e.1 ≠ "new" → goesB rs e.1 e.2.1 e.2.2 = true → sortB rs e.1 e.2.1 e.2.2 ∈ l
theorem rch_sub {rs : List Rw} {ao : List Str} {l : List So} (h0 : freshS ∈ l) (hc : ClosedS rs ao l) : ∀ {s : So}, Rch rs ao s → s ∈ l := by
  intro s h
  induction h with
  | fresh => exact h0
  | @one k h hk ha hn hj _ hg ih => exact hc (k, h, none) (evs_mem.mpr ⟨⟨hk, ha⟩, ih, by rw [if_neg hj]⟩) hn hg
  | @two h w ha _ _ hg ih1 ih2 => exact hc ("join", h, some w) (evs_mem.mpr ⟨⟨by decide, ha⟩, ih1, by rw [if_pos rfl]; exact ⟨w, ih2, rfl⟩⟩) (by show ("join" : Str) ≠ "new"; decide) hg
theorem ev_rch {rs : List Rw} {ao : List Str} {l : List So} (hs : ∀ s ∈ l, Rch rs ao s) {e : Str × So × Option So} (he : e ∈ evsOf l ao) (hn : e.1 ≠ "new") (hg : goesB rs e.1 e.2.1 e.2.2 = true) : Rch rs ao (sortB rs e.1 e.2.1 e.2.2) := by
  obtain ⟨k, h, w⟩ := e
  obtain ⟨⟨hk, ha⟩, hh, hw⟩ := evs_mem.mp he
  split at hw
  · rename_i e
    have e : k = "join" := e
    obtain ⟨w2, h2, rfl⟩ := hw
    subst e
    exact .two ha (hs h hh) (hs w2 h2) hg
  · rename_i e
    subst hw
    exact .one hk ha hn e (hs h hh) hg
theorem ev_w {l : List So} {ao : List Str} {e : Str × So × Option So} (he : e ∈ evsOf l ao) : e.2.2 = none → e.1 ≠ "join" := by
  obtain ⟨k, h, w⟩ := e
  obtain ⟨_, _, hw⟩ := evs_mem.mp he
  intro e1 e2
  have e2 : k = "join" := e2
  rw [if_pos e2] at hw
  obtain ⟨w2, _, h2⟩ := hw
  have e1 : w = none := e1
  rw [e1] at h2; cases h2
def missS (l : List So) : Nat := (allSo.filter fun s => !decide (s ∈ l)).length
theorem allSo_all (s : So) : s ∈ allSo := by
  obtain ⟨p, s, l⟩ := s
  cases p <;> cases s <;> cases l <;> decide
theorem miss_add {l : List So} {s : So} (h : s ∉ l) : missS (l ++ [s]) + 1 = missS l := by
  have nd : (allSo.filter fun s => !decide (s ∈ l)).Nodup := List.Nodup.sublist List.filter_sublist (by decide)
  have hm : s ∈ allSo.filter fun s => !decide (s ∈ l) := List.mem_filter.mpr ⟨allSo_all s, by simpa using h⟩
  have e : (allSo.filter fun t => !decide (t ∈ l ++ [s])) = (allSo.filter fun s => !decide (s ∈ l)).erase s := by
    rw [nd.erase_eq_filter, List.filter_filter]
    refine List.filter_congr fun t _ => ?_
    by_cases h1 : t ∈ l <;> by_cases h2 : t = s <;> simp [h1, h2]
  unfold missS
  rw [e, List.length_erase_of_mem hm]
  have := List.length_pos_of_mem hm
  omega
def addS (l : List So) (s : So) : List So := if s ∈ l then l else l ++ [s]
theorem addS_mem {l : List So} {s t : So} : t ∈ addS l s ↔ t ∈ l ∨ t = s := by
  unfold addS
  split
  · rename_i h
    exact ⟨.inl, fun z => z.elim id fun e => e ▸ h⟩
  · rw [List.mem_append, List.mem_singleton]
theorem addS_len {l : List So} {s : So} (h : l.length + missS l = 8) : (addS l s).length + missS (addS l s) = 8 := by
  unfold addS
  split
  · exact h
  · rename_i e
    have := miss_add e
    rw [List.length_append, List.length_singleton]; omega
theorem addS_pre {l0 l : List So} {s : So} (h : l0 <+: l) : l0 <+: addS l s := by
  unfold addS
  split
  · exact h
  · exact h.trans (List.prefix_append _ _)
def inSo (l : List So) (d : D) : Bool := match d.nk with | some k => (findN (sosD l) k).isSome | none => false
theorem inSo_d (l : List So) (s : So) : inSo l s.d = decide (s ∈ l) := by
  unfold inSo; rw [So.nk]; exact findN_sos l s
theorem filt_so (l m : List So) : (((m.map So.d).filter (inSo l)).map fun d => d) = (m.filter fun s => decide (s ∈ l)).map So.d := by
  rw [List.map_id', List.filter_map]
  exact congrArg (fun z => (List.filter z m).map So.d) (funext fun s => inSo_d l s)
/-- what the sorts are, in their order -/
def sortsD (l : List So) : D := .tup ((allSo.filter fun s => decide (s ∈ l)).map So.d)
def spClosed (K : PySem.W.Frag) : SpD := fun ds μ Q _ => ∃ (rs : List Rw) (y : D) (ao : List Str), ds = [storeD K rs, y] ∧ StrSeq y ao ∧ (∀ r ∈ rs, okR 9 r) ∧ ∀ l : List So, (∀ s, s ∈ l ↔ Rch rs ao s) → Q (sortsD l) μ
section
abbrev N_closed_sorts : List Str := ["store", "without", "found", "many", "kind", "here", "there", "sort"]
theorem sc_closed_sorts : FnScope N_closed_sorts ["store", "without"] (defScope sclosed_sorts) := ⟨rfl, rfl, rfl, by decide +kernel, rfl, by decide +kernel, by decide +kernel⟩
theorem v_closed_sorts_store : Nm N_closed_sorts (defScope sclosed_sorts) 0 "store" := ⟨rfl, by decide +kernel, by decide +kernel, by decide +kernel⟩
theorem v_closed_sorts_without : Nm N_closed_sorts (defScope sclosed_sorts) 1 "without" := ⟨rfl, by decide +kernel, by decide +kernel, by decide +kernel⟩
theorem v_closed_sorts_found : Nm N_closed_sorts (defScope sclosed_sorts) 2 "found" := ⟨rfl, by decide +kernel, by decide +kernel, by decide +kernel⟩
theorem v_closed_sorts_many : Nm N_closed_sorts (defScope sclosed_sorts) 3 "many" := ⟨rfl, by decide +kernel, by decide +kernel, by decide +kernel⟩
theorem v_closed_sorts_kind : Nm N_closed_sorts (defScope sclosed_sorts) 4 "kind" := ⟨rfl, by decide +kernel, by decide +kernel, by decide +kernel⟩
theorem v_closed_sorts_here : Nm N_closed_sorts (defScope sclosed_sorts) 5 "here" := ⟨rfl, by decide +kernel, by decide +kernel, by decide +kernel⟩
theorem v_closed_sorts_there : Nm N_closed_sorts (defScope sclosed_sorts) 6 "there" := ⟨rfl, by decide +kernel, by decide +kernel, by decide +kernel⟩
theorem w_closed_sorts_sort : NmB N_closed_sorts 7 "sort" := ⟨rfl, by decide +kernel, by decide +kernel⟩
theorem gl_closed_sorts_FRESH : (defScope sclosed_sorts).names.lookup ("FRESH" : Str) = some .globalImplicit := by decide +kernel
theorem gl_closed_sorts_all_sorts : (defScope sclosed_sorts).names.lookup ("all_sorts" : Str) = some .globalImplicit := by decide +kernel
theorem gl_closed_sorts_events_of : (defScope sclosed_sorts).names.lookup ("events_of" : Str) = some .globalImplicit := by decide +kernel
theorem gl_closed_sorts_goes_on : (defScope sclosed_sorts).names.lookup ("goes_on" : Str) = some .globalImplicit := by decide +kernel
theorem gl_closed_sorts_len : (defScope sclosed_sorts).names.lookup ("len" : Str) = some .globalImplicit := by decide +kernel
theorem gl_closed_sorts_list : (defScope sclosed_sorts).names.lookup ("list" : Str) = some .globalImplicit := by decide +kernel
theorem gl_closed_sorts_sort_behind : (defScope sclosed_sorts).names.lookup ("sort_behind" : Str) = some .globalImplicit := by decide +kernel
theorem gl_closed_sorts_tuple : (defScope sclosed_sorts).names.lookup ("tuple" : Str) = some .globalImplicit := by decide +kernel
-- found is a cell
theorem sl_closed_sorts_many : (defScope sclosed_sorts).names.lookup ("many" : Str) = some .local := by decide +kernel
theorem sl_closed_sorts_kind : (defScope sclosed_sorts).names.lookup ("kind" : Str) = some .local := by decide +kernel
theorem sl_closed_sorts_here : (defScope sclosed_sorts).names.lookup ("here" : Str) = some .local := by decide +kernel
theorem sl_closed_sorts_there : (defScope sclosed_sorts).names.lookup ("there" : Str) = some .local := by decide +kernel
local macro_rules | `(tactic| walk_at "pd.nm") => `(tactic| first
  | ((with_reducible show ed _ (Expr.Name "store" _) _ _ _); first | refine ed_nm v_closed_sorts_store rfl ?_ | refine ed_nmB (sc := defScope sclosed_sorts) v_closed_sorts_store rfl ?_)
  | ((with_reducible show ed _ (Expr.Name "without" _) _ _ _); first | refine ed_nm v_closed_sorts_without rfl ?_ | refine ed_nmB (sc := defScope sclosed_sorts) v_closed_sorts_without rfl ?_)
  | ((with_reducible show ed _ (Expr.Name "found" _) _ _ _); first | refine ed_nm v_closed_sorts_found rfl ?_ | refine ed_nmB (sc := defScope sclosed_sorts) v_closed_sorts_found rfl ?_)
  | ((with_reducible show ed _ (Expr.Name "many" _) _ _ _); first | refine ed_nm v_closed_sorts_many rfl ?_ | refine ed_nmB (sc := defScope sclosed_sorts) v_closed_sorts_many rfl ?_)
  | ((with_reducible show ed _ (Expr.Name "kind" _) _ _ _); first | refine ed_nm v_closed_sorts_kind rfl ?_ | refine ed_nmB (sc := defScope sclosed_sorts) v_closed_sorts_kind rfl ?_)
  | ((with_reducible show ed _ (Expr.Name "here" _) _ _ _); first | refine ed_nm v_closed_sorts_here rfl ?_ | refine ed_nmB (sc := defScope sclosed_sorts) v_closed_sorts_here rfl ?_)
  | ((with_reducible show ed _ (Expr.Name "there" _) _ _ _); first | refine ed_nm v_closed_sorts_there rfl ?_ | refine ed_nmB (sc := defScope sclosed_sorts) v_closed_sorts_there rfl ?_)
  | ((with_reducible show ed _ (Expr.Name "sort" _) _ _ _); refine ed_nmC (sc := defScope sclosed_sorts) w_closed_sorts_sort rfl ?_)
  | ((with_reducible show ed _ (Expr.Name "FRESH" _) _ _ _); refine ed_gtupV (vs := cst_FRESH) (ds := [D.bl false, D.bl false, D.bl true]) (g_FRESH (by assumption)) (t_FRESH (by assumption)) rfl rfl ?_ (hg := by first | exact gl_of gl_closed_sorts_FRESH))
  | ((with_reducible show ed _ (Expr.Name "list" _) _ _ _); refine ed_ty (n := "list") (b_list (by assumption)) bb_list ?_ (hg := by first | exact gl_of gl_closed_sorts_list))
  | ((with_reducible show ed _ (Expr.Name "tuple" _) _ _ _); refine ed_ty (n := "tuple") (b_tuple (by assumption)) bb_tuple ?_ (hg := by first | exact gl_of gl_closed_sorts_tuple))
  | fail)
local macro_rules | `(tactic| walk_at "pd.set") => `(tactic| first
  | ((with_reducible show sd _ (Stmt.Assign [Expr.Name "many" _] (Expr.ListComp _ _ _ _) _) _ _ _); refine sd_setLc (own := [("sort", 7)]) (i := 3) rfl sc_closed_sorts.nd rfl (by exact sl_closed_sorts_many) (sw_true rfl (by exact sl_closed_sorts_many) rfl (by decide +kernel)) (blkOk_by (N := N_closed_sorts) (sc := defScope sclosed_sorts) (by decide +kernel)) ?_)
  | ((with_reducible show sd _ (Stmt.Assign [Expr.Name "kind" _] (Expr.ListComp _ _ _ _) _) _ _ _); refine sd_setLc (own := [("sort", 7)]) (i := 4) rfl sc_closed_sorts.nd rfl (by exact sl_closed_sorts_kind) (sw_true rfl (by exact sl_closed_sorts_kind) rfl (by decide +kernel)) (blkOk_by (N := N_closed_sorts) (sc := defScope sclosed_sorts) (by decide +kernel)) ?_)
  | ((with_reducible show sd _ (Stmt.Assign [Expr.Name "here" _] (Expr.ListComp _ _ _ _) _) _ _ _); refine sd_setLc (own := [("sort", 7)]) (i := 5) rfl sc_closed_sorts.nd rfl (by exact sl_closed_sorts_here) (sw_true rfl (by exact sl_closed_sorts_here) rfl (by decide +kernel)) (blkOk_by (N := N_closed_sorts) (sc := defScope sclosed_sorts) (by decide +kernel)) ?_)
  | ((with_reducible show sd _ (Stmt.Assign [Expr.Name "there" _] (Expr.ListComp _ _ _ _) _) _ _ _); refine sd_setLc (own := [("sort", 7)]) (i := 6) rfl sc_closed_sorts.nd rfl (by exact sl_closed_sorts_there) (sw_true rfl (by exact sl_closed_sorts_there) rfl (by decide +kernel)) (blkOk_by (N := N_closed_sorts) (sc := defScope sclosed_sorts) (by decide +kernel)) ?_)
  | ((with_reducible show sd _ (Stmt.Assign [Expr.Name "found" _] _ _) _ _ _); refine sd_nm v_closed_sorts_found sc_closed_sorts.nd ?_)
  | ((with_reducible show sd _ (Stmt.Assign [Expr.Name "many" _] _ _) _ _ _); refine sd_nm v_closed_sorts_many sc_closed_sorts.nd ?_)
  | ((with_reducible show sd _ (Stmt.Assign [Expr.Name "kind" _] _ _) _ _ _); refine sd_nm v_closed_sorts_kind sc_closed_sorts.nd ?_)
  | ((with_reducible show sd _ (Stmt.Assign [Expr.Name "here" _] _ _) _ _ _); refine sd_nm v_closed_sorts_here sc_closed_sorts.nd ?_)
  | ((with_reducible show sd _ (Stmt.Assign [Expr.Name "there" _] _ _) _ _ _); refine sd_nm v_closed_sorts_there sc_closed_sorts.nd ?_)
  | fail)
local macro_rules | `(tactic| walk_at "pd.g") => `(tactic| first
  | ((with_reducible show gd _ (Expr.Name "found" _) _ _ _ _); refine gd_nm v_closed_sorts_found sc_closed_sorts.nd ?_)
  | ((with_reducible show gd _ (Expr.Name "many" _) _ _ _ _); refine gd_nm v_closed_sorts_many sc_closed_sorts.nd ?_)
  | ((with_reducible show gd _ (Expr.Name "kind" _) _ _ _ _); refine gd_nm v_closed_sorts_kind sc_closed_sorts.nd ?_)
  | ((with_reducible show gd _ (Expr.Name "here" _) _ _ _ _); refine gd_nm v_closed_sorts_here sc_closed_sorts.nd ?_)
  | ((with_reducible show gd _ (Expr.Name "there" _) _ _ _ _); refine gd_nm v_closed_sorts_there sc_closed_sorts.nd ?_)
  | ((with_reducible show gv _ (Expr.Name "sort" _) _ _ _ _ _); refine gv_nmC (sc := defScope sclosed_sorts) w_closed_sorts_sort sc_closed_sorts.nd (by decide) ?_)
  | fail)
local macro_rules | `(tactic| walk_at "pd.call") => `(tactic| first
  | ((with_reducible show ed _ (Expr.Call (Expr.Name "tuple" _) (_ :: _) _ _) _ _ _); refine ed_callTy (T := "tuple") (b_tuple (by assumption)) bb_tuple ?_ (hg := by first | exact gl_of gl_closed_sorts_tuple))
  | ((with_reducible show ed _ (Expr.Call (Expr.Name "len" _) (_ :: _) _ _) _ _ _); refine ed_callB (id := "len") (b_len (by assumption)) bb_len ?_ (hg := by first | exact gl_of gl_closed_sorts_len))
  | ((with_reducible show ed _ (Expr.Call (Expr.Name "events_of" _) (_ :: _) _ _) _ _ _); refine ed_callC ((ok_events_of (by assumption)).at_ _) (by assumption) (by decide) (g_events_of (by assumption)) ?_ (hg := by first | exact gl_of gl_closed_sorts_events_of))
  | ((with_reducible show ed _ (Expr.Call (Expr.Name "list" _) (_ :: _) _ _) _ _ _); refine ed_callTy (T := "list") (b_list (by assumption)) bb_list ?_ (hg := by first | exact gl_of gl_closed_sorts_list))
  | ((with_reducible show ed _ (Expr.Call (Expr.Name "goes_on" _) (_ :: _) _ _) _ _ _); refine ed_callC ((ok_goes_on (by assumption)).at_ _) (by assumption) (by decide) (g_goes_on (by assumption)) ?_ (hg := by first | exact gl_of gl_closed_sorts_goes_on))
  | ((with_reducible show ed _ (Expr.Call (Expr.Name "all_sorts" _) [] _ _) _ _ _); refine ed_callC0 ((ok_all_sorts (by assumption)).at_ _) (by assumption) (by decide) (g_all_sorts (by assumption)) ?_ (hg := by first | exact gl_of gl_closed_sorts_all_sorts | exact glB_of (sc := defScope sclosed_sorts)))
  | ((with_reducible show ed _ (Expr.Call (Expr.Name "sort_behind" _) (_ :: _) _ _) _ _ _); refine ed_callC ((ok_sort_behind (by assumption)).at_ _) (by assumption) (by decide) (g_sort_behind (by assumption)) ?_ (hg := by first | exact gl_of gl_closed_sorts_sort_behind))
  | fail)
local macro_rules | `(tactic| walk_at "pd.lc") => `(tactic| first
  | ((with_reducible show ed _ (Expr.ListComp _ [_] _ _) _ _ _); refine ed_lc (own := [("sort", 7)]) [("sort", 7)] rfl rfl sc_closed_sorts.nd (blkOk_by (N := N_closed_sorts) (sc := defScope sclosed_sorts) (by decide +kernel)) ?_)
  | fail)
local macro_rules | `(tactic| walk_at "pd.it") => `(tactic| first
  | ((with_reducible show eid _ _ _ _ _ _); refine eid_of ?_)
  | fail)
local macro_rules | `(tactic| walk_at "pd.gd") => `(tactic| ((with_reducible show gd _ (Expr.Subscript _ _ _) _ _ _ _); refine gd_sub ?_))
theorem ok_closed_sorts (T : T0 w K mg) : CallD P w K mg base 5 (He.ga K "closed_sorts") 2 [] (spClosed K) := by
  obtain ⟨fd, F⟩ := f_closed_sorts T
  refine CallD.mk0 (ps := ["store", "without"]) F (fun _ _ _ _ _ _ us hl => match us, hl with | [_, _], _ => rfl) (fnD_of F sc_closed_sorts fun cdv A outer s H F0 μ ds Qd Ed hr hl h => ?_)
  obtain ⟨rs, y, ao, rfl, hy, hok, kk⟩ := h
  have hu := hr.units
  show sds _ _ [some (storeD K rs), some y, none, none, none, none, none, none] _ _
  refine sds_cons ?_
  refine sd_nm v_closed_sorts_found sc_closed_sorts.nd ?_
  refine ed_dispN1 hu fun g => ?_
  walk_at "pd"
  refine ⟨_, freshS.k, rfl, freshS.nk, freshS.depth, ?_⟩
  walk_at "pd"
  refine ⟨[], _, rfl, ?_⟩
  show sds _ _ [some (storeD K rs), some y, some (.ref g), none, none, none, none, none] ((g, dN P w (sosD [freshS])) :: μ) _
  walk_at "pdS"
  refine sds_cons ?_
  walk_at "pdS"
  refine sds_cons ?_
  refine sd_while (fun m δ' μ' => ∃ (l : List So) (many : Nat) (x4 x5 x6 x7 : Option D), δ' = [some (storeD K rs), some y, some (.ref g), some (.int (many : Nat)), x4, x5, x6, x7] ∧ μ' = (g, dN P w (sosD l)) :: μ ∧ freshS ∈ l ∧ (∀ s ∈ l, Rch rs ao s) ∧ l.length + missS l = 8 ∧ many ≤ l.length ∧ (many = l.length → ClosedS rs ao l) ∧ m = 2 * missS l + (if many < l.length then 1 else 0)) _ ⟨[freshS], 0, _, _, _, _, rfl, rfl, List.mem_singleton.mpr rfl, fun s hs => by rw [List.mem_singleton.mp hs]; exact .fresh, by decide, Nat.zero_le _, (fun z => nomatch z), rfl⟩ ?_
  rintro m δ' μ' ⟨l, many, x4, x5, x6, x7, rfl, rfl, h0, hs, h8, hm, hcl, rfl⟩
  have hlen : (sosD l).length = l.length := by unfold sosD; rw [List.length_map]
  walk_at "pd"
  refine cld_len_N List.mem_cons_self ?_
  rw [hlen]
  walk_at "pd"
  refine ifd (fun h1 => ?_) (fun h1 => ?_)
  · have h1 : many < l.length := by omega
    walk_at "pdS"
    refine sds_cons ?_
    walk_at "pdS"
    refine cld_len_N List.mem_cons_self ?_
    rw [hlen]
    walk_at "pdS"
    refine sds_cons ?_
    refine sd_for rfl ?_
    walk_at "pd"
    refine cld_list_N List.mem_cons_self ?_
    rw [keys_sos]
    walk_at "pd"
    refine ⟨_, y, l, ao, rfl, .inr rfl, hy, by omega, ?_⟩
    walk_at "pd"
    refine ⟨fun i δ' μ' => ∃ (l' : List So) (x4 x5 x6 x7 : Option D), δ' = [some (storeD K rs), some y, some (.ref g), some (.int (l.length : Nat)), x4, x5, x6, x7] ∧ μ' = (g, dN P w (sosD l')) :: μ ∧ l <+: l' ∧ (∀ s ∈ l', Rch rs ao s) ∧ l'.length + missS l' = 8 ∧ ∀ j e, j < i → (evsOf l ao)[j]? = some e → e.1 ≠ "new" → goesB rs e.1 e.2.1 e.2.2 = true → sortB rs e.1 e.2.1 e.2.2 ∈ l', ⟨l, _, _, _, _, rfl, rfl, List.prefix_rfl, hs, h8, fun _ _ z => absurd z (Nat.not_lt_zero _)⟩, fun _ _ _ _ _ => trivial, ?_, ?_⟩
    · rintro i d δ' μ' hd ⟨l', x4, x5, x6, x7, rfl, rfl, hp, hs', h8', hj⟩
      rw [List.getElem?_map] at hd
      obtain ⟨e, he, rfl⟩ := Option.map_eq_some_iff.mp hd
      have hem := List.mem_of_getElem? he
      have hw := ev_w hem
      have hr1 := ev_rch (rs := rs) hs hem
      have hstep : ∀ l2 : List So, (∀ t ∈ l', t ∈ l2) → (e.1 ≠ "new" → goesB rs e.1 e.2.1 e.2.2 = true → sortB rs e.1 e.2.1 e.2.2 ∈ l2) → ∀ j e, j < i + 1 → (evsOf l ao)[j]? = some e → e.1 ≠ "new" → goesB rs e.1 e.2.1 e.2.2 = true → sortB rs e.1 e.2.1 e.2.2 ∈ l2 := by
        intro l2 hsub hnew j e' hj' he' hn hg
        rcases Nat.lt_or_ge j i with hlt | hge
        · exact hsub _ (hj j e' hlt he' hn hg)
        · have : j = i := by omega
          subst this
          rw [he] at he'
          cases he'
          exact hnew hn hg
      obtain ⟨k, so, wo⟩ := e
      show gd _ _ (D.tup [.str k, so.d, thD wo]) _ _ _
      walk_at "pd"
      refine ifb (fun h2 => ?_) (fun h2 => ?_)
      · have hk : k ≠ "new" := by simpa using h2
        walk_at "pd"
        refine ⟨rs, k, so, wo, rfl, hok, hw, ?_⟩
        walk_at "pd"
        refine ifb (fun h3 => ?_) (fun h3 => ?_)
        · walk_at "pd"
          refine ⟨rs, k, so, wo, rfl, hok, hw, ?_⟩
          refine std_N (μ1 := []) (ds := [.bl (sortB rs k so wo).p, .bl (sortB rs k so wo).s, .bl (sortB rs k so wo).l]) (k := (sortB rs k so wo).k) hu (by unfold sosD; rw [List.length_map, sizeLine_eq]; omega) (So.nk _) (So.depth _) ?_
          have ep : putN (sosD l') (.tup [.bl (sortB rs k so wo).p, .bl (sortB rs k so wo).s, .bl (sortB rs k so wo).l]) (sortB rs k so wo).k (.bl true) = sosD (addS l' (sortB rs k so wo)) := putN_sos l' _
          rw [ep]
          walk_at "pd"
          refine ⟨addS l' (sortB rs k so wo), _, _, _, _, rfl, rfl, addS_pre hp, fun t ht => ?_, addS_len h8', hstep _ (fun t ht => addS_mem.mpr (.inl ht)) fun _ _ => addS_mem.mpr (.inr rfl)⟩
          rcases addS_mem.mp ht with h | h
          · exact hs' t h
          · rw [h]; exact hr1 hk h3
        · walk_at "pd"
          exact ⟨l', _, _, _, _, rfl, rfl, hp, hs', h8', hstep l' (fun _ h => h) fun _ hg => absurd hg (by rw [h3]; decide)⟩
      · have hk : k = "new" := by simpa using h2
        walk_at "pd"
        exact ⟨l', _, _, _, _, rfl, rfl, hp, hs', h8', hstep l' (fun _ h => h) fun hn => absurd hk hn⟩
    · rintro δ' μ' ⟨l', x4, x5, x6, x7, rfl, rfl, hp, hs', h8', hj⟩
      rw [List.length_map] at hj
      walk_at "pd"
      have hle := hp.length_le
      refine ⟨_, ?_, l', l.length, _, _, _, _, rfl, rfl, hp.subset h0, hs', h8', hle, fun e => ?_, rfl⟩
      · rw [if_pos h1]
        split <;> omega
      · have : l' = l := (hp.eq_of_length e).symm
        subst this
        intro e he hn hg
        obtain ⟨j, hj1, hj2⟩ := List.getElem_of_mem he
        exact hj j e hj1 (by rw [List.getElem?_eq_getElem hj1, hj2]) hn hg
  · have h1 : many = l.length := by omega
    walk_at "pdS"
    refine sds_cons ?_
    refine sd_ret (ed_dropL ?_)
    walk_at "pd"
    refine lcd_fm (inSo l) (fun d => d) ?_
    walk_at "pd"
    refine ⟨rfl, ?_⟩
    walk_at "pd"
    refine ⟨by decide, trivial, fun d hd => ?_, ?_⟩
    · obtain ⟨t, ht, rfl⟩ := List.mem_map.mp hd
      walk_at "pd"
      refine opd_inN (ds := [.bl t.p, .bl t.s, .bl t.l]) (k := t.k) hu List.mem_cons_self t.nk t.depth ?_
      walk_at "pd"
      refine ⟨?_, rfl, fun _ => ?_⟩
      · rw [findN_sos]; exact (inSo_d l t).symm
      · walk_at "pd"
        exact ⟨rfl, rfl⟩
    · rw [filt_so]
      walk_at "pd"
      exact ⟨[_], μ, rfl, kk l fun s => ⟨hs s, fun h => rch_sub h0 (hcl h1) h⟩⟩
end
section
abbrev N_sorts : List Str := ["store", "without"]
theorem sc_sorts : FnScope N_sorts ["store", "without"] (defScope ssorts) := ⟨rfl, rfl, rfl, by decide +kernel, rfl, by decide +kernel, by decide +kernel⟩
theorem v_sorts_store : Nm N_sorts (defScope ssorts) 0 "store" := ⟨rfl, by decide +kernel, by decide +kernel, by decide +kernel⟩
theorem v_sorts_without : Nm N_sorts (defScope ssorts) 1 "without" := ⟨rfl, by decide +kernel, by decide +kernel, by decide +kernel⟩
theorem gl_sorts_closed_sorts : (defScope ssorts).names.lookup ("closed_sorts" : Str) = some .globalImplicit := by decide +kernel
local macro_rules | `(tactic| walk_at "pd.nm") => `(tactic| first
  | ((with_reducible show ed _ (Expr.Name "store" _) _ _ _); first | refine ed_nm v_sorts_store rfl ?_ | refine ed_nmB (sc := defScope ssorts) v_sorts_store rfl ?_)
  | ((with_reducible show ed _ (Expr.Name "without" _) _ _ _); first | refine ed_nm v_sorts_without rfl ?_ | refine ed_nmB (sc := defScope ssorts) v_sorts_without rfl ?_)
  | fail)
local macro_rules | `(tactic| walk_at "pd.call") => `(tactic| first
  | ((with_reducible show ed _ (Expr.Call (Expr.Name "closed_sorts" _) (_ :: _) _ _) _ _ _); refine ed_callC ((ok_closed_sorts (by assumption)).at_ _) (by assumption) (by decide) (g_closed_sorts (by assumption)) ?_ (hg := by first | exact gl_of gl_sorts_closed_sorts))
  | fail)
local macro_rules | `(tactic| walk_at "pd.it") => `(tactic| first
  | ((with_reducible show eid _ _ _ _ _ _); refine eid_of ?_)
  | fail)
theorem fnd_sorts (T : T0 w K mg) {fd : FuncData} (F : FunD K "sorts" "sorts" (defArgs ssorts) (defBody ssorts) (defScope ssorts) (dsorts.dvs K) (dsorts.kws K) (He.fAd K dsorts.at_) fd) {b : Md} : FnD b P w K mg base 6 (He.fAd K dsorts.at_) fd ["store", "without"] (spClosed K) := by
  refine fnD_of F sc_sorts fun cdv A outer s H F0 μ ds Qd Ed hr hl h => ?_
  obtain ⟨rs, y, ao, rfl, hy, hok, kk⟩ := h
  show sds _ _ [some (storeD K rs), some y] _ _
  refine sds_cons ?_
  walk_at "pd"
  exact ⟨rs, y, ao, rfl, hy, hok, kk⟩
theorem okk_sorts (T : T0 w K mg) : CallK P w K mg base 6 (He.ga K "sorts") 1 ["without"] (spClosed K) := by
  obtain ⟨fd, F⟩ := f_sorts T
  exact CallK.mk0 1 ["without"] F (List.cons_ne_nil _ _) rfl (fun _ _ _ _ _ _ us ws h1 h2 => match us, ws, h1, h2 with | [_], [_], _, _ => rfl) (fnd_sorts T F)
theorem ok_sorts (T : T0 w K mg) : CallD P w K mg base 6 (He.ga K "sorts") 2 [.tup []] (spClosed K) := by
  obtain ⟨fd, F⟩ := f_sorts T
  exact CallD.mkK (ps := ["store", "without"]) 1 F (List.cons_ne_nil _ _) rfl [.tup []] (fun F => Dps.cons (dpt (tupAB_ok (t_sorts_without T) F) Dps.nil) Dps.nil) (fun _ _ _ _ _ _ us ks h1 h2 => match us, ks, h1, h2 with | [_], [_], _, _ => ⟨_, _, _, _, _, _, rfl, rfl, rfl⟩) (fnd_sorts T F)
end
end
section
variable {P : Program} {w : World} {K : PySem.W.Frag} {mg : Str → Option Value} {base : Heap}
/-! ### the law's own look at tests, rows and sorts -/
theorem so_ok : ∀ t ∈ RT.allTests, Txt.split t " " ≠ [] ∧ decide (Str.ofString "winner" ∈ Txt.split t " ") = winT t ∧ (Txt.split t " ").getLastD "" = (plT t).getLastD "" := by decide +kernel
section
abbrev N_so : List Str := ["_law_test", "_law_here", "_law_there", "_law_words", "_law_sort"]
theorem sc_so : FnScope N_so ["_law_test", "_law_here", "_law_there"] (defScope sso) := ⟨rfl, rfl, rfl, by decide +kernel, rfl, by decide +kernel, by decide +kernel⟩
theorem v_so_test : Nm N_so (defScope sso) 0 "_law_test" := ⟨rfl, by decide +kernel, by decide +kernel, by decide +kernel⟩
theorem v_so_here : Nm N_so (defScope sso) 1 "_law_here" := ⟨rfl, by decide +kernel, by decide +kernel, by decide +kernel⟩
theorem v_so_there : Nm N_so (defScope sso) 2 "_law_there" := ⟨rfl, by decide +kernel, by decide +kernel, by decide +kernel⟩
theorem v_so_words : Nm N_so (defScope sso) 3 "_law_words" := ⟨rfl, by decide +kernel, by decide +kernel, by decide +kernel⟩
theorem v_so_sort : Nm N_so (defScope sso) 4 "_law_sort" := ⟨rfl, by decide +kernel, by decide +kernel, by decide +kernel⟩
local macro_rules | `(tactic| walk_at "pd.nm") => `(tactic| first
  | ((with_reducible show ed _ (Expr.Name "_law_test" _) _ _ _); first | refine ed_nm v_so_test rfl ?_ | refine ed_nmB (sc := defScope sso) v_so_test rfl ?_)
  | ((with_reducible show ed _ (Expr.Name "_law_here" _) _ _ _); first | refine ed_nm v_so_here rfl ?_ | refine ed_nmB (sc := defScope sso) v_so_here rfl ?_)
  | ((with_reducible show ed _ (Expr.Name "_law_there" _) _ _ _); first | refine ed_nm v_so_there rfl ?_ | refine ed_nmB (sc := defScope sso) v_so_there rfl ?_)
  | ((with_reducible show ed _ (Expr.Name "_law_words" _) _ _ _); first | refine ed_nm v_so_words rfl ?_ | refine ed_nmB (sc := defScope sso) v_so_words rfl ?_)
  | ((with_reducible show ed _ (Expr.Name "_law_sort" _) _ _ _); first | refine ed_nm v_so_sort rfl ?_ | refine ed_nmB (sc := defScope sso) v_so_sort rfl ?_)
  | fail)
local macro_rules | `(tactic| walk_at "pd.set") => `(tactic| first
  | ((with_reducible show sd _ (Stmt.Assign [Expr.Name "_law_words" _] _ _) _ _ _); refine sd_nm v_so_words sc_so.nd ?_)
  | ((with_reducible show sd _ (Stmt.Assign [Expr.Name "_law_sort" _] _ _) _ _ _); refine sd_nm v_so_sort sc_so.nd ?_)
  | fail)
local macro_rules | `(tactic| walk_at "pd.g") => `(tactic| first
  | ((with_reducible show gd _ (Expr.Name "_law_words" _) _ _ _ _); refine gd_nm v_so_words sc_so.nd ?_)
  | ((with_reducible show gd _ (Expr.Name "_law_sort" _) _ _ _ _); refine gd_nm v_so_sort sc_so.nd ?_)
  | fail)
local macro_rules | `(tactic| walk_at "pd.call") => `(tactic| first
  | ((with_reducible show ed _ (Expr.Call (Expr.Attribute _ "split" _) (_ :: _) _ _) _ _ _); with_reducible refine ed_bm PySem.F.plainAttrs_str PySem.F.slot_str_split PySem.F.type_str_split ?_)
  | fail)
local macro_rules | `(tactic| walk_at "pd.it") => `(tactic| first
  | ((with_reducible show eid _ _ _ _ _ _); refine eid_of ?_)
  | fail)
theorem ok_so (T : T0 w K mg) : CallD P w K mg base 2 (He.ga K "_law_so") 3 [] spTestH := by
  obtain ⟨fd, F⟩ := f_so T
  refine CallD.mk0 (ps := ["_law_test", "_law_here", "_law_there"]) F (fun _ _ _ _ _ _ us hl => match us, hl with | [_, _, _], _ => rfl) (fnD_of F sc_so fun cdv A outer s H F0 μ ds Qd Ed hr hl h => ?_)
  obtain ⟨t, so, wo, rfl, ht, hw, kk⟩ := h
  have hu := hr.units
  obtain ⟨n1, n2, n3⟩ := so_ok t ht
  have htl := (show ∀ t ∈ RT.allTests, t.length ≤ 17 by decide +kernel) t ht
  show sds _ _ [some (.str t), some so.d, some (thD wo), none, none] _ _
  refine sds_cons ?_
  walk_at "pd"
  refine mtd_split (by decide) (small_le (by omega)) ?_
  walk_at "pdS"
  refine sds_cut (fun δ' μ' => ∃ s1 : So, s1 = (if winT t then wo.getD so else so) ∧ δ' = [some (.str t), some so.d, some (thD wo), some (.lst ((Txt.split t " ").map .str)), some (.tup [.bl s1.p, .bl s1.s, .bl s1.l])] ∧ μ' = μ) ?_ ?_
  · walk_at "pd"
    rw [n2]
    refine ifb (fun h1 => ?_) (fun h1 => ?_)
    · cases wo with
      | none => have := hw rfl; rw [h1] at this; cases this
      | some so2 =>
        walk_at "pd"
        exact ⟨so2, by rw [h1]; rfl, rfl, rfl⟩
    · walk_at "pd"
      exact ⟨so, by rw [h1]; rfl, rfl, rfl⟩
  rintro δ' μ' ⟨s1, e1, rfl, rfl⟩
  have he : atI ((Txt.split t " ").map D.str) (-1) = some (.str ((Txt.split t " ").getLastD "")) := by
    obtain ⟨v, hv⟩ : ∃ v, Txt.split t " " = (Txt.split t " ").dropLast ++ [v] := ⟨_, (List.dropLast_concat_getLast n1).symm⟩
    have e2 : (Txt.split t " ").getLastD "" = v := by rw [hv, List.getLastD_concat]
    rw [e2, hv, List.map_append]
    exact atI_last _ _
  have hk : holdT t so wo = ((if (plT t).getLastD "" = "points" then s1.p else s1.s) == !negT t) := by
    unfold holdT markW
    rw [← e1]
    cases (if (plT t).getLastD "" = "points" then s1.p else s1.s) <;> cases negT t <;> rfl
  rw [hk, ← n3] at kk
  refine sds_cons ?_
  walk_at "pd"
  refine ixd_lst he ?_
  walk_at "pd"
  refine ifd (fun h1 => ?_) (fun h1 => ?_)
  · rw [if_pos h1] at kk
    walk_at "pd"
    refine ixd_lst (hd_of n1) ?_
    walk_at "pd"
    refine opd_eqB hu ?_
    exact kk
  · rw [if_neg h1] at kk
    walk_at "pd"
    refine ixd_lst (hd_of n1) ?_
    walk_at "pd"
    refine opd_eqB hu ?_
    exact kk
end
def spRowFor : SpD := fun ds μ Q _ => ∃ (rs : List Rw) (k : Str) (h : So) (w : Option So), ds = [.lst (rs.map tupR), .str k, h.d, thD w] ∧ (∀ r ∈ rs, okR 9 r) ∧ (w = none → k ≠ "join") ∧ Q (natO (rowAt rs k h w)) μ
section
abbrev N_row_for : List Str := ["_law_rows_here", "_law_kind", "_law_here", "_law_there", "_law_at", "_law_row_here", "_law_bad", "_law_test"]
theorem sc_row_for : FnScope N_row_for ["_law_rows_here", "_law_kind", "_law_here", "_law_there"] (defScope srow_for) := ⟨rfl, rfl, rfl, by decide +kernel, rfl, by decide +kernel, by decide +kernel⟩
theorem v_row_for_rows_here : Nm N_row_for (defScope srow_for) 0 "_law_rows_here" := ⟨rfl, by decide +kernel, by decide +kernel, by decide +kernel⟩
theorem v_row_for_kind : Nm N_row_for (defScope srow_for) 1 "_law_kind" := ⟨rfl, by decide +kernel, by decide +kernel, by decide +kernel⟩
theorem v_row_for_here : Nm N_row_for (defScope srow_for) 2 "_law_here" := ⟨rfl, by decide +kernel, by decide +kernel, by decide +kernel⟩
theorem v_row_for_there : Nm N_row_for (defScope srow_for) 3 "_law_there" := ⟨rfl, by decide +kernel, by decide +kernel, by decide +kernel⟩
theorem v_row_for_at : Nm N_row_for (defScope srow_for) 4 "_law_at" := ⟨rfl, by decide +kernel, by decide +kernel, by decide +kernel⟩
theorem v_row_for_row_here : Nm N_row_for (defScope srow_for) 5 "_law_row_here" := ⟨rfl, by decide +kernel, by decide +kernel, by decide +kernel⟩
theorem v_row_for_bad : Nm N_row_for (defScope srow_for) 6 "_law_bad" := ⟨rfl, by decide +kernel, by decide +kernel, by decide +kernel⟩
theorem w_row_for_test : NmB N_row_for 7 "_law_test" := ⟨rfl, by decide +kernel, by decide +kernel⟩
theorem gl_row_for_enumerate : (defScope srow_for).names.lookup ("enumerate" : Str) = some .globalImplicit := by decide +kernel
theorem sl_row_for_at : (defScope srow_for).names.lookup ("_law_at" : Str) = some .local := by decide +kernel
-- _law_row_here is a cell
theorem sl_row_for_bad : (defScope srow_for).names.lookup ("_law_bad" : Str) = some .local := by decide +kernel
local macro_rules | `(tactic| walk_at "pd.nm") => `(tactic| first
  | ((with_reducible show ed _ (Expr.Name "_law_rows_here" _) _ _ _); first | refine ed_nm v_row_for_rows_here rfl ?_ | refine ed_nmB (sc := defScope srow_for) v_row_for_rows_here rfl ?_)
  | ((with_reducible show ed _ (Expr.Name "_law_kind" _) _ _ _); first | refine ed_nm v_row_for_kind rfl ?_ | refine ed_nmB (sc := defScope srow_for) v_row_for_kind rfl ?_)
  | ((with_reducible show ed _ (Expr.Name "_law_here" _) _ _ _); first | refine ed_nm v_row_for_here rfl ?_ | refine ed_nmB (sc := defScope srow_for) v_row_for_here rfl ?_)
  | ((with_reducible show ed _ (Expr.Name "_law_there" _) _ _ _); first | refine ed_nm v_row_for_there rfl ?_ | refine ed_nmB (sc := defScope srow_for) v_row_for_there rfl ?_)
  | ((with_reducible show ed _ (Expr.Name "_law_at" _) _ _ _); first | refine ed_nm v_row_for_at rfl ?_ | refine ed_nmB (sc := defScope srow_for) v_row_for_at rfl ?_)
  | ((with_reducible show ed _ (Expr.Name "_law_row_here" _) _ _ _); first | refine ed_nm v_row_for_row_here rfl ?_ | refine ed_nmB (sc := defScope srow_for) v_row_for_row_here rfl ?_)
  | ((with_reducible show ed _ (Expr.Name "_law_bad" _) _ _ _); first | refine ed_nm v_row_for_bad rfl ?_ | refine ed_nmB (sc := defScope srow_for) v_row_for_bad rfl ?_)
  | ((with_reducible show ed _ (Expr.Name "_law_test" _) _ _ _); refine ed_nmC (sc := defScope srow_for) w_row_for_test rfl ?_)
  | ((with_reducible show ed _ (Expr.Name "enumerate" _) _ _ _); refine ed_ty (n := "enumerate") (b_enumerate (by assumption)) bb_enumerate ?_ (hg := by first | exact gl_of gl_row_for_enumerate))
  | fail)
local macro_rules | `(tactic| walk_at "pd.set") => `(tactic| first
  | ((with_reducible show sd _ (Stmt.Assign [Expr.Name "_law_at" _] (Expr.ListComp _ _ _ _) _) _ _ _); refine sd_setLc (own := [("_law_test", 7)]) (i := 4) rfl sc_row_for.nd rfl (by exact sl_row_for_at) (sw_true rfl (by exact sl_row_for_at) rfl (by decide +kernel)) (blkOk_by (N := N_row_for) (sc := defScope srow_for) (by decide +kernel)) ?_)
  | ((with_reducible show sd _ (Stmt.Assign [Expr.Name "_law_bad" _] (Expr.ListComp _ _ _ _) _) _ _ _); refine sd_setLc (own := [("_law_test", 7)]) (i := 6) rfl sc_row_for.nd rfl (by exact sl_row_for_bad) (sw_true rfl (by exact sl_row_for_bad) rfl (by decide +kernel)) (blkOk_by (N := N_row_for) (sc := defScope srow_for) (by decide +kernel)) ?_)
  | ((with_reducible show sd _ (Stmt.Assign [Expr.Name "_law_at" _] _ _) _ _ _); refine sd_nm v_row_for_at sc_row_for.nd ?_)
  | ((with_reducible show sd _ (Stmt.Assign [Expr.Name "_law_row_here" _] _ _) _ _ _); refine sd_nm v_row_for_row_here sc_row_for.nd ?_)
  | ((with_reducible show sd _ (Stmt.Assign [Expr.Name "_law_bad" _] _ _) _ _ _); refine sd_nm v_row_for_bad sc_row_for.nd ?_)
  | fail)
local macro_rules | `(tactic| walk_at "pd.g") => `(tactic| first
  | ((with_reducible show gd _ (Expr.Name "_law_at" _) _ _ _ _); refine gd_nm v_row_for_at sc_row_for.nd ?_)
  | ((with_reducible show gd _ (Expr.Name "_law_row_here" _) _ _ _ _); refine gd_nm v_row_for_row_here sc_row_for.nd ?_)
  | ((with_reducible show gd _ (Expr.Name "_law_bad" _) _ _ _ _); refine gd_nm v_row_for_bad sc_row_for.nd ?_)
  | ((with_reducible show gv _ (Expr.Name "_law_test" _) _ _ _ _ _); refine gv_nmC (sc := defScope srow_for) w_row_for_test sc_row_for.nd (by decide) ?_)
  | fail)
local macro_rules | `(tactic| walk_at "pd.call") => `(tactic| first
  | ((with_reducible show ed _ (Expr.Call (Expr.Name "_law_so" _) (_ :: _) _ _) _ _ _); refine ed_callC ((ok_so (by assumption)).at_ _) (by assumption) (by decide) (g_so (by assumption)) ?_ (hg := by first | exact glB_of (sc := defScope srow_for)))
  | fail)
local macro_rules | `(tactic| walk_at "pd.lc") => `(tactic| first
  | ((with_reducible show ed _ (Expr.ListComp _ [_] _ _) _ _ _); refine ed_lc (own := [("_law_test", 7)]) [("_law_test", 7)] rfl rfl sc_row_for.nd (blkOk_by (N := N_row_for) (sc := defScope srow_for) (by decide +kernel)) ?_)
  | fail)
local macro_rules | `(tactic| walk_at "pd.it") => `(tactic| first
  | ((with_reducible show eid _ _ (Expr.Call (Expr.Name "enumerate" _) [_] _ _) _ _ _); refine eid_enumS (b_enumerate (by assumption)) ?_ (hg := by first | exact gl_of gl_row_for_enumerate))
  | ((with_reducible show eid _ _ _ _ _ _); refine eid_of ?_)
  | fail)
theorem ok_row_for (T : T0 w K mg) : CallD P w K mg base 3 (He.ga K "_law_row_for") 4 [] spRowFor := by
  obtain ⟨fd, F⟩ := f_row_for T
  refine CallD.mk0 (ps := ["_law_rows_here", "_law_kind", "_law_here", "_law_there"]) F (fun _ _ _ _ _ _ us hl => match us, hl with | [_, _, _, _], _ => rfl) (fnD_of F sc_row_for fun cdv A outer s H F0 μ ds Qd Ed hr hl h => ?_)
  obtain ⟨rs, k, so, wo, rfl, hok, hw, kk⟩ := h
  have hu := hr.units
  have hu0 := Nat.lt_of_le_of_lt (Nat.le_add_right _ 64) hr.units
  show sds _ _ (some (.lst (rs.map tupR)) :: some (.str k) :: some so.d :: some (thD wo) :: List.replicate 4 none) _ _
  refine sds_cons ?_
  refine sd_for rfl ?_
  walk_at "pd"
  refine ⟨fun i δ' μ' => ∃ x4 x5 x6 x7, δ' = [some (.lst (rs.map tupR)), some (.str k), some so.d, some (thD wo), x4, x5, x6, x7] ∧ μ' = μ ∧ ∀ j r, j < i → rs[j]? = some r → fitR k so wo r = false, ⟨_, _, _, _, rfl, rfl, fun _ _ h => absurd h (Nat.not_lt_zero _)⟩, fun _ _ _ _ _ => .lst _, ?_, ?_⟩
  · rintro i d δ2 μ2 hd ⟨x4, x5, x6, x7, rfl, rfl, hf⟩
    obtain ⟨y, hy, rfl⟩ := enumD_get hd
    rw [List.getElem?_map] at hy
    obtain ⟨r, hr2, rfl⟩ := Option.map_eq_some_iff.mp hy
    obtain ⟨hro, htl, hwl⟩ := hok r (List.mem_of_getElem? hr2)
    show gd _ _ (.tup [.int (i : Nat), .tup [.str r.k, .lst (r.ts.map .str), .lst (r.ws.map .str), .bl r.a]]) _ _ _
    have hnext : fitR k so wo r = false → ∀ j r', j < i + 1 → rs[j]? = some r' → fitR k so wo r' = false := fun h j r' hj hr' => by
      rcases Nat.lt_or_ge j i with h1 | h1
      · exact hf j r' h1 hr'
      · have : j = i := by omega
        subst this
        rw [hr2] at hr'
        cases hr'
        exact h
    have hyes : fitR k so wo r = true → rowAt rs k so wo = some i := fun hfit => by
      obtain ⟨hi, hg⟩ := List.getElem?_eq_some_iff.mp hr2
      refine List.findIdx?_eq_some_iff_getElem.mpr ⟨hi, by rw [hg]; exact hfit, fun j hj => ?_⟩
      rw [hf j rs[j] hj (List.getElem?_eq_getElem (by omega))]
      decide
    walk_at "pdS"
    refine sds_cons ?_
    walk_at "pd"
    refine lcd_fm (fun d => decide (r.k = k) && !holdT (PD.strOf d) so wo) (fun d => d) ?_
    walk_at "pd"
    refine ⟨by rw [List.length_map]; omega, trivial, fun d hd2 => ?_, ?_⟩
    · obtain ⟨t, ht, rfl⟩ := List.mem_map.mp hd2
      walk_at "pd"
      refine ifd (fun h1 => ?_) (fun h1 => ?_)
      · walk_at "pd"
        refine ⟨t, so, wo, rfl, tests_all hro.kd (hro.te t ht), fun e => win_not (h1 ▸ hw e) (hro.te t ht), ?_⟩
        walk_at "pd"
        refine ⟨by rw [decide_eq_true h1]; rfl, rfl, fun _ => ?_⟩
        walk_at "pd"
        exact ⟨rfl, rfl⟩
      · walk_at "pd"
        refine ⟨by rw [decide_eq_false h1]; rfl, rfl, fun _ => ?_⟩
        walk_at "pd"
        exact ⟨rfl, rfl⟩
    · have e : (((r.ts.map D.str).filter fun d => decide (r.k = k) && !holdT (PD.strOf d) so wo).map fun d => d) = (r.ts.filter fun t => decide (r.k = k) && !holdT t so wo).map D.str := by
        rw [List.map_id', List.filter_map]; rfl
      rw [e]
      walk_at "pd"
      refine ifd (fun h1 => ?_) (fun h1 => ?_)
      · walk_at "pd"
        have hso : strsOk (r.ts.filter fun t => decide (r.k = k) && !holdT t so wo) := fun t ht => (show ∀ t ∈ RT.allTests, PyData.strOk t = true by decide +kernel) t (tests_all hro.kd (hro.te t (List.mem_filter.mp ht).1))
        refine opd_eqV hu (.same _) (.same (D.lst [])) (ok_strs hso) (by rfl) (depth_strs _) (by decide) ?_
        rw [eqD_nil]
        have hfe : (((r.ts.filter fun t => decide (r.k = k) && !holdT t so wo).map D.str).isEmpty) = fitR k so wo r := by
          unfold fitR
          rw [decide_eq_true h1, Bool.true_and]
          cases hal : r.ts.all fun t => holdT t so wo with
          | true =>
            have e2 : (r.ts.filter fun t => true && !holdT t so wo) = [] := List.filter_eq_nil_iff.mpr fun t ht => by
              rw [List.all_eq_true.mp hal t ht]; decide
            rw [e2]; rfl
          | false =>
            obtain ⟨t, ht, hf2⟩ := List.all_eq_false.mp hal
            have hm : t ∈ r.ts.filter fun t => true && !holdT t so wo := List.mem_filter.mpr ⟨ht, by cases hh : holdT t so wo with | true => exact absurd hh hf2 | false => rfl⟩
            cases e3 : r.ts.filter fun t => true && !holdT t so wo with
            | nil => rw [e3] at hm; exact absurd hm List.not_mem_nil
            | cons a b => rfl
        rw [hfe]
        walk_at "pd"
        refine ifb (fun h2 => ?_) (fun h2 => ?_)
        · walk_at "pd"
          rw [hyes h2] at kk
          exact kk
        · walk_at "pd"
          exact ⟨_, _, _, _, rfl, rfl, hnext h2⟩
      · walk_at "pd"
        exact ⟨_, _, _, _, rfl, rfl, hnext (by unfold fitR; rw [decide_eq_false h1]; rfl)⟩
  · rintro δ2 μ2 ⟨x4, x5, x6, x7, rfl, rfl, hf⟩
    rw [enumD_len, List.length_map] at hf
    walk_at "pd"
    have e : rowAt rs k so wo = none := by
      refine List.findIdx?_eq_none_iff.mpr fun r hr => ?_
      obtain ⟨j, hj, rfl⟩ := List.getElem_of_mem hr
      exact hf j _ hj (List.getElem?_eq_getElem hj)
    rw [e] at kk
    exact kk
end
def nextD (rs : List Rw) (k : Str) (h : So) (w : Option So) : D := if goesB rs k h w = true then (sortB rs k h w).d else .non
def spNext : SpD := fun ds μ Q _ => ∃ (rs : List Rw) (k : Str) (h : So) (w : Option So), ds = [.lst (rs.map tupR), .str k, h.d, thD w] ∧ (∀ r ∈ rs, okR 9 r) ∧ (w = none → k ≠ "join") ∧ Q (nextD rs k h w) μ
/-- the pointer and the strike behind deeds -/
theorem markS_p (s : So) (d : Str) : (markS s d).p = if d ∈ (["point", "bare"] : List Str) then decide (d = "point") else s.p := by
  unfold markS
  split
  · rfl
  · split <;> rfl
theorem markS_s (s : So) (d : Str) : (markS s d).s = if d ∈ (["strike", "wake"] : List Str) then decide (d = "strike") else s.s := by
  unfold markS
  split
  · rename_i h
    rw [if_neg]
    intro h2
    revert h h2
    simp only [List.mem_cons, List.not_mem_nil, or_false]
    rintro (rfl | rfl) (h | h) <;> revert h <;> decide
  · split <;> rfl
theorem markS_l (s : So) (d : Str) : (markS s d).l = s.l := by
  unfold markS
  split
  · rfl
  · split <;> rfl
theorem foldS_l : ∀ (ws : List Str) (s : So), (ws.foldl markS s).l = s.l
  | [], _ => rfl
  | d :: ws, s => by rw [List.foldl_cons, foldS_l ws, markS_l]
section
abbrev N_next_sort : List Str := ["_law_rows_here", "_law_kind", "_law_here", "_law_there", "_law_at", "_law_points", "_law_struck", "_law_live", "_law_is_yes", "_law_deed"]
theorem sc_next_sort : FnScope N_next_sort ["_law_rows_here", "_law_kind", "_law_here", "_law_there"] (defScope snext_sort) := ⟨rfl, rfl, rfl, by decide +kernel, rfl, by decide +kernel, by decide +kernel⟩
theorem v_next_sort_rows_here : Nm N_next_sort (defScope snext_sort) 0 "_law_rows_here" := ⟨rfl, by decide +kernel, by decide +kernel, by decide +kernel⟩
theorem v_next_sort_kind : Nm N_next_sort (defScope snext_sort) 1 "_law_kind" := ⟨rfl, by decide +kernel, by decide +kernel, by decide +kernel⟩
theorem v_next_sort_here : Nm N_next_sort (defScope snext_sort) 2 "_law_here" := ⟨rfl, by decide +kernel, by decide +kernel, by decide +kernel⟩
theorem v_next_sort_there : Nm N_next_sort (defScope snext_sort) 3 "_law_there" := ⟨rfl, by decide +kernel, by decide +kernel, by decide +kernel⟩
theorem v_next_sort_at : Nm N_next_sort (defScope snext_sort) 4 "_law_at" := ⟨rfl, by decide +kernel, by decide +kernel, by decide +kernel⟩
theorem v_next_sort_points : Nm N_next_sort (defScope snext_sort) 5 "_law_points" := ⟨rfl, by decide +kernel, by decide +kernel, by decide +kernel⟩
theorem v_next_sort_struck : Nm N_next_sort (defScope snext_sort) 6 "_law_struck" := ⟨rfl, by decide +kernel, by decide +kernel, by decide +kernel⟩
theorem v_next_sort_live : Nm N_next_sort (defScope snext_sort) 7 "_law_live" := ⟨rfl, by decide +kernel, by decide +kernel, by decide +kernel⟩
theorem v_next_sort_is_yes : Nm N_next_sort (defScope snext_sort) 8 "_law_is_yes" := ⟨rfl, by decide +kernel, by decide +kernel, by decide +kernel⟩
theorem v_next_sort_deed : Nm N_next_sort (defScope snext_sort) 9 "_law_deed" := ⟨rfl, by decide +kernel, by decide +kernel, by decide +kernel⟩
theorem gl_next_sort_row_for : (defScope snext_sort).names.lookup ("_law_row_for" : Str) = some .globalImplicit := by decide +kernel
local macro_rules | `(tactic| walk_at "pd.nm") => `(tactic| first
  | ((with_reducible show ed _ (Expr.Name "_law_rows_here" _) _ _ _); first | refine ed_nm v_next_sort_rows_here rfl ?_ | refine ed_nmB (sc := defScope snext_sort) v_next_sort_rows_here rfl ?_)
  | ((with_reducible show ed _ (Expr.Name "_law_kind" _) _ _ _); first | refine ed_nm v_next_sort_kind rfl ?_ | refine ed_nmB (sc := defScope snext_sort) v_next_sort_kind rfl ?_)
  | ((with_reducible show ed _ (Expr.Name "_law_here" _) _ _ _); first | refine ed_nm v_next_sort_here rfl ?_ | refine ed_nmB (sc := defScope snext_sort) v_next_sort_here rfl ?_)
  | ((with_reducible show ed _ (Expr.Name "_law_there" _) _ _ _); first | refine ed_nm v_next_sort_there rfl ?_ | refine ed_nmB (sc := defScope snext_sort) v_next_sort_there rfl ?_)
  | ((with_reducible show ed _ (Expr.Name "_law_at" _) _ _ _); first | refine ed_nm v_next_sort_at rfl ?_ | refine ed_nmB (sc := defScope snext_sort) v_next_sort_at rfl ?_)
  | ((with_reducible show ed _ (Expr.Name "_law_points" _) _ _ _); first | refine ed_nm v_next_sort_points rfl ?_ | refine ed_nmB (sc := defScope snext_sort) v_next_sort_points rfl ?_)
  | ((with_reducible show ed _ (Expr.Name "_law_struck" _) _ _ _); first | refine ed_nm v_next_sort_struck rfl ?_ | refine ed_nmB (sc := defScope snext_sort) v_next_sort_struck rfl ?_)
  | ((with_reducible show ed _ (Expr.Name "_law_live" _) _ _ _); first | refine ed_nm v_next_sort_live rfl ?_ | refine ed_nmB (sc := defScope snext_sort) v_next_sort_live rfl ?_)
  | ((with_reducible show ed _ (Expr.Name "_law_is_yes" _) _ _ _); first | refine ed_nm v_next_sort_is_yes rfl ?_ | refine ed_nmB (sc := defScope snext_sort) v_next_sort_is_yes rfl ?_)
  | ((with_reducible show ed _ (Expr.Name "_law_deed" _) _ _ _); first | refine ed_nm v_next_sort_deed rfl ?_ | refine ed_nmB (sc := defScope snext_sort) v_next_sort_deed rfl ?_)
  | fail)
local macro_rules | `(tactic| walk_at "pd.set") => `(tactic| first
  | ((with_reducible show sd _ (Stmt.Assign [Expr.Name "_law_at" _] _ _) _ _ _); refine sd_nm v_next_sort_at sc_next_sort.nd ?_)
  | ((with_reducible show sd _ (Stmt.Assign [Expr.Name "_law_points" _] _ _) _ _ _); refine sd_nm v_next_sort_points sc_next_sort.nd ?_)
  | ((with_reducible show sd _ (Stmt.Assign [Expr.Name "_law_struck" _] _ _) _ _ _); refine sd_nm v_next_sort_struck sc_next_sort.nd ?_)
  | ((with_reducible show sd _ (Stmt.Assign [Expr.Name "_law_live" _] _ _) _ _ _); refine sd_nm v_next_sort_live sc_next_sort.nd ?_)
  | ((with_reducible show sd _ (Stmt.Assign [Expr.Name "_law_is_yes" _] _ _) _ _ _); refine sd_nm v_next_sort_is_yes sc_next_sort.nd ?_)
  | ((with_reducible show sd _ (Stmt.Assign [Expr.Name "_law_deed" _] _ _) _ _ _); refine sd_nm v_next_sort_deed sc_next_sort.nd ?_)
  | fail)
local macro_rules | `(tactic| walk_at "pd.g") => `(tactic| first
  | ((with_reducible show gd _ (Expr.Name "_law_at" _) _ _ _ _); refine gd_nm v_next_sort_at sc_next_sort.nd ?_)
  | ((with_reducible show gd _ (Expr.Name "_law_points" _) _ _ _ _); refine gd_nm v_next_sort_points sc_next_sort.nd ?_)
  | ((with_reducible show gd _ (Expr.Name "_law_struck" _) _ _ _ _); refine gd_nm v_next_sort_struck sc_next_sort.nd ?_)
  | ((with_reducible show gd _ (Expr.Name "_law_live" _) _ _ _ _); refine gd_nm v_next_sort_live sc_next_sort.nd ?_)
  | ((with_reducible show gd _ (Expr.Name "_law_is_yes" _) _ _ _ _); refine gd_nm v_next_sort_is_yes sc_next_sort.nd ?_)
  | ((with_reducible show gd _ (Expr.Name "_law_deed" _) _ _ _ _); refine gd_nm v_next_sort_deed sc_next_sort.nd ?_)
  | fail)
local macro_rules | `(tactic| walk_at "pd.call") => `(tactic| first
  | ((with_reducible show ed _ (Expr.Call (Expr.Name "_law_row_for" _) (_ :: _) _ _) _ _ _); refine ed_callC ((ok_row_for (by assumption)).at_ _) (by assumption) (by decide) (g_row_for (by assumption)) ?_ (hg := by first | exact gl_of gl_next_sort_row_for))
  | fail)
local macro_rules | `(tactic| walk_at "pd.it") => `(tactic| first
  | ((with_reducible show eid _ _ _ _ _ _); refine eid_of ?_)
  | fail)
theorem ok_next_sort (T : T0 w K mg) : CallD P w K mg base 4 (He.ga K "_law_next_sort") 4 [] spNext := by
  obtain ⟨fd, F⟩ := f_next_sort T
  refine CallD.mk0 (ps := ["_law_rows_here", "_law_kind", "_law_here", "_law_there"]) F (fun _ _ _ _ _ _ us hl => match us, hl with | [_, _, _, _], _ => rfl) (fnD_of F sc_next_sort fun cdv A outer s H F0 μ ds Qd Ed hr hl h => ?_)
  obtain ⟨rs, k, so, wo, rfl, hok, hw, kk⟩ := h
  have hu := hr.units
  show sds _ _ (some (.lst (rs.map tupR)) :: some (.str k) :: some (.tup [.bl so.p, .bl so.s, .bl so.l]) :: some (thD wo) :: List.replicate 6 none) _ _
  refine sds_cons ?_
  walk_at "pdS"
  refine ⟨rs, k, so, wo, rfl, hok, hw, ?_⟩
  walk_at "pdS"
  unfold nextD goesB sortB foldS at kk
  cases ho : rowAt rs k so wo with
  | none =>
    rw [ho] at kk
    refine sds_cons ?_
    walk_at "pd"
    refine iteTr rfl ?_
    walk_at "pd"
    have e : (!careS k so wo || !yesAt rs none) = true := by show (!careS k so wo || !false) = true; simp
    rw [if_pos e] at kk
    exact kk
  | some i =>
    rw [ho] at kk
    have hi := row_lt ho
    obtain ⟨r, hri⟩ : ∃ r, rs[i]? = some r := ⟨_, List.getElem?_eq_getElem hi⟩
    have hya : yesAt rs (some i) = r.a := by show ((rs[i]?).map (·.a)).getD false = _; rw [hri]; rfl
    have hwsa : wsAt rs (some i) = r.ws := by show ((rs[i]?).map (·.ws)).getD [] = _; rw [hri]; rfl
    rw [hya, hwsa] at kk
    have hat : atI (rs.map tupR) (i : Nat) = some (.tup [.str r.k, .lst (r.ts.map .str), .lst (r.ws.map .str), .bl r.a]) := atI_nat (by rw [List.getElem?_map, hri]; rfl)
    show sds _ _ (some (.lst (rs.map tupR)) :: some (.str k) :: some (.tup [.bl so.p, .bl so.s, .bl so.l]) :: some (thD wo) :: some (.int (i : Nat)) :: List.replicate 5 none) _ _
    refine sds_cons ?_
    walk_at "pd"
    refine iteFr rfl ?_
    walk_at "pdS"
    refine sds_cons ?_
    walk_at "pdS"
    refine sds_cons ?_
    walk_at "pdS"
    refine ixd_lst hat ?_
    walk_at "pdS"
    obtain ⟨rk, rts, rws, ra⟩ := r
    dsimp only at kk hat
    refine sds_cut (fun δ' μ' => δ' = [some (.lst (rs.map tupR)), some (.str k), some (.tup [.bl so.p, .bl so.s, .bl so.l]), some (thD wo), some (.int (i : Nat)), some (.bl so.p), some (.bl so.s), some (.bl so.l), some (.bl ra), none] ∧ μ' = μ ∧ (ra = true → k = "join" → careS k so wo = false)) ?_ ?_
    · walk_at "pd"
      cases ra with
      | false =>
        refine iteFr rfl ?_
        walk_at "pd"
        exact ⟨rfl, rfl, fun z => nomatch z⟩
      | true =>
        rw [if_pos rfl]
        walk_at "pd"
        refine ifd (fun h1 => ?_) (fun h1 => ?_)
        · cases wo with
          | none => exact absurd h1 (hw rfl)
          | some w2 =>
            have ec : careS k so (some w2) = !(so.l && w2.l) := by unfold careS; rw [if_pos h1]; rfl
            have kk2 : (so.l && w2.l) = false → Qd D.non μ := fun hf => by
              rw [ec, hf, if_neg (by decide)] at kk
              exact kk
            show ew _ _ (some (.lst (rs.map tupR)) :: some (.str k) :: some (.tup [.bl so.p, .bl so.s, .bl so.l]) :: some (.tup [.bl w2.p, .bl w2.s, .bl w2.l]) :: _) _ _
            walk_at "pd"
            cases hl2 : so.l with
            | false =>
              walk_at "pd"
              exact kk2 (by rw [hl2]; rfl)
            | true =>
              rw [if_pos rfl]
              walk_at "pd"
              cases hw2 : w2.l with
              | false =>
                rw [if_pos (by decide)]
                walk_at "pd"
                exact kk2 (by rw [hl2, hw2]; rfl)
              | true =>
                rw [if_neg (by decide)]
                walk_at "pd"
                exact ⟨rfl, rfl, fun _ _ => by rw [ec, hl2, hw2]; rfl⟩
        · walk_at "pd"
          exact ⟨rfl, rfl, fun _ e => absurd e h1⟩
    rintro δ' μ' ⟨rfl, rfl, hc1⟩
    refine sds_cut (fun δ' μ'' => δ' = [some (.lst (rs.map tupR)), some (.str k), some (.tup [.bl so.p, .bl so.s, .bl so.l]), some (thD wo), some (.int (i : Nat)), some (.bl so.p), some (.bl so.s), some (.bl so.l), some (.bl ra), none] ∧ μ'' = μ' ∧ (!careS k so wo || !ra) = true) ?_ ?_
    · walk_at "pd"
      cases ra with
      | false =>
        rw [if_neg (by decide)]
        walk_at "pd"
        exact ⟨rfl, rfl, by simp⟩
      | true =>
        rw [if_pos rfl]
        walk_at "pd"
        by_cases hj : k = "join"
        · have hc := hc1 rfl hj
          refine ifd (fun h1 => ?_) (fun h1 => ?_)
          · rw [hj] at h1; exact absurd h1 (by decide)
          · walk_at "pd"
            exact ⟨rfl, rfl, by rw [hc]; rfl⟩
        · have ec : careS k so wo = (decide (k = "back") && so.l) := by unfold careS; rw [if_neg hj]
          refine ifd (fun h1 => ?_) (fun h1 => ?_)
          · walk_at "pd"
            cases hl2 : so.l with
            | true =>
              walk_at "pd"
              rw [ec, hl2, decide_eq_true h1, if_neg (by decide)] at kk
              exact kk
            | false =>
              walk_at "pd"
              exact ⟨rfl, rfl, by rw [ec, hl2]; simp⟩
          · walk_at "pd"
            exact ⟨rfl, rfl, by rw [ec, decide_eq_false h1]; rfl⟩
    rintro δ' μ'' ⟨rfl, rfl, hg⟩
    rw [if_pos hg] at kk
    refine sds_cons ?_
    refine sd_for rfl ?_
    walk_at "pd"
    refine ixd_lst hat ?_
    walk_at "pd"
    refine ⟨fun j δ' μ' => ∃ x9, δ' = [some (.lst (rs.map tupR)), some (.str k), some (.tup [.bl so.p, .bl so.s, .bl so.l]), some (thD wo), some (.int (i : Nat)), some (.bl ((rws.take j).foldl markS so).p), some (.bl ((rws.take j).foldl markS so).s), some (.bl so.l), some (.bl ra), x9] ∧ μ' = μ'', ⟨_, rfl, rfl⟩, fun _ _ _ _ _ => trivial, ?_, ?_⟩
    · rintro j d δ' μ' hd ⟨x9, rfl, rfl⟩
      rw [List.getElem?_map] at hd
      obtain ⟨t, ht, rfl⟩ := Option.map_eq_some_iff.mp hd
      have e1 : (rws.take (j + 1)).foldl markS so = markS ((rws.take j).foldl markS so) t := by
        rw [List.take_add_one, ht, List.foldl_append]; rfl
      obtain ⟨s1, hs1⟩ : ∃ s1, s1 = (rws.take j).foldl markS so := ⟨_, rfl⟩
      rw [← hs1] at e1 ⊢
      clear hs1
      walk_at "pdS"
      refine sds_cut (fun δ' μ3 => δ' = [some (.lst (rs.map tupR)), some (.str k), some (.tup [.bl so.p, .bl so.s, .bl so.l]), some (thD wo), some (.int (i : Nat)), some (.bl (markS s1 t).p), some (.bl s1.s), some (.bl so.l), some (.bl ra), some (.str t)] ∧ μ3 = μ') ?_ ?_
      · walk_at "pd"
        refine opd_inS ["point", "bare"] (.tup _) rfl ?_
        walk_at "pd"
        refine ifd (fun h1 => ?_) (fun h1 => ?_)
        · walk_at "pd"
          exact ⟨by rw [markS_p, if_pos h1]; rfl, rfl⟩
        · walk_at "pd"
          exact ⟨by rw [markS_p, if_neg h1]; rfl, rfl⟩
      rintro δ' μ3 ⟨rfl, rfl⟩
      refine sds_cons ?_
      walk_at "pd"
      refine opd_inS ["strike", "wake"] (.tup _) rfl ?_
      walk_at "pd"
      refine ifd (fun h1 => ?_) (fun h1 => ?_)
      · walk_at "pd"
        exact ⟨some (.str t), by rw [e1, markS_s, if_pos h1]; rfl, rfl⟩
      · walk_at "pd"
        exact ⟨some (.str t), by rw [e1, markS_s, if_neg h1]; rfl, rfl⟩
    · rintro δ' μ' ⟨x9, rfl, rfl⟩
      rw [List.length_map, List.take_length]
      have hfl : (rws.foldl markS so).l = so.l := foldS_l rws so
      have hfd : (rws.foldl markS so).d = .tup [.bl (rws.foldl markS so).p, .bl (rws.foldl markS so).s, .bl so.l] := by unfold So.d; rw [hfl]
      revert kk hfd
      generalize rws.foldl markS so = s1
      intro kk hfd
      refine sds_cons ?_
      walk_at "pd"
      cases ra with
      | false =>
        rw [if_neg (by decide)]
        walk_at "pd"
        have kk : Qd s1.d μ' := kk
        rw [hfd] at kk
        exact kk
      | true =>
        rw [if_pos rfl]
        walk_at "pd"
        rw [if_pos rfl] at kk
        refine opd_inS ["join", "back"] (.tup _) rfl ?_
        walk_at "pd"
        refine ifd (fun h2 => ?_) (fun h2 => ?_)
        · rw [if_pos h2] at kk
          walk_at "pd"
          exact kk
        · rw [if_neg h2, hfd] at kk
          walk_at "pd"
          exact kk
end
end
section
variable {P : Program} {w : World} {K : PySem.W.Frag} {mg : Str → Option Value} {base : Heap}
/-! ### the law's own sorts -/
def stepL (rs : List Rw) (ao : List Str) (l : List So) (k : Str) (h : So) (w : Option So) : List So := if k ∈ ao then l else if goesB rs k h w = true then addS l (sortB rs k h w) else l
theorem addS_sub {l : List So} {s t : So} (h : t ∈ l) : t ∈ addS l s := addS_mem.mpr (.inl h)
theorem stepL_sub {rs : List Rw} {ao : List Str} {l : List So} {k : Str} {h : So} {w : Option So} {t : So} (e : t ∈ l) : t ∈ stepL rs ao l k h w := by
  unfold stepL
  split
  · exact e
  · split
    · exact addS_sub e
    · exact e
theorem stepL_in {rs : List Rw} {ao : List Str} {l : List So} {k : Str} {h : So} {w : Option So} (hk : k ∉ ao) (hg : goesB rs k h w = true) : sortB rs k h w ∈ stepL rs ao l k h w := by
  unfold stepL
  rw [if_neg hk, if_pos hg]
  exact addS_mem.mpr (.inr rfl)
structure LInv (rs : List Rw) (ao : List Str) (l0 l : List So) : Prop where
  pre : l0 <+: l
  snd : ∀ s ∈ l, Rch rs ao s
  len : l.length + missS l = 8
theorem LInv.step {rs : List Rw} {ao : List Str} {l0 l : List So} {k : Str} {h : So} {w : Option So} (I : LInv rs ao l0 l) (hr : k ∉ ao → goesB rs k h w = true → Rch rs ao (sortB rs k h w)) : LInv rs ao l0 (stepL rs ao l k h w) := by
  unfold stepL
  split
  · exact I
  · rename_i hk
    split
    · rename_i hg
      exact ⟨addS_pre I.pre, fun s hs => (addS_mem.mp hs).elim (I.snd s) fun e => e ▸ hr hk hg, addS_len I.len⟩
    · exact I
def JCl (rs : List Rw) (ao : List Str) (l : List So) (h w : So) : Prop := ("join" : Str) ∉ ao → goesB rs "join" h (some w) = true → sortB rs "join" h (some w) ∈ l
def OCl (rs : List Rw) (ao : List Str) (l : List So) (k : Str) (h : So) : Prop := k ∉ ao → goesB rs k h none = true → sortB rs k h none ∈ l
def twoK : List Str := ["back", "sweep"]
structure DoneL (rs : List Rw) (ao : List Str) (l : List So) (n : Nat) : Prop where
  j : ∀ h ∈ l.take n, ∀ w ∈ l.take n, JCl rs ao l h w
  o : ∀ h ∈ l.take n, ∀ k ∈ twoK, OCl rs ao l k h
theorem DoneL.closed {rs : List Rw} {ao : List Str} {l : List So} (d : DoneL rs ao l l.length) : ClosedS rs ao l := by
  obtain ⟨d1, d2⟩ := d
  rw [List.take_length] at d1 d2
  rintro ⟨k, h, w⟩ he hn hg
  obtain ⟨⟨hk, ha⟩, hh, hw⟩ := evs_mem.mp he
  split at hw
  · rename_i e
    have e : k = "join" := e
    obtain ⟨w2, h2, rfl⟩ := hw
    subst e
    exact d1 h hh w2 h2 ha hg
  · rename_i e
    subst hw
    refine d2 h hh k ?_ ha hg
    have hn : k ≠ "new" := hn
    have e : k ≠ "join" := e
    unfold kindsL at hk
    simp only [List.mem_cons, List.not_mem_nil, or_false] at hk
    unfold twoK
    simp only [List.mem_cons, List.not_mem_nil, or_false]
    rcases hk with hk | hk | hk | hk
    · exact absurd hk hn
    · exact absurd hk e
    · exact .inl hk
    · exact .inr hk
theorem take_pre {l0 l : List So} {n : Nat} (h : l0 <+: l) (hn : n ≤ l0.length) : l.take n = l0.take n := by
  obtain ⟨ext, rfl⟩ := h
  rw [List.take_append_of_le_length hn]
theorem get_pre {l0 l : List So} {n : Nat} {c : So} (h : l0 <+: l) (hn : l0[n]? = some c) : l[n]? = some c := by
  obtain ⟨ext, rfl⟩ := h
  rw [List.getElem?_append_left (List.getElem?_eq_some_iff.mp hn).1, hn]
theorem at_so {l : List So} {n : Nat} {c : So} (h : l[n]? = some c) : atI (l.map So.d) (n : Nat) = some c.d := atI_nat (by rw [List.getElem?_map, h]; rfl)
def spLSorts : SpD := fun ds μ Q _ => ∃ (rs : List Rw) (y : D) (ao : List Str), ds = [.lst (rs.map tupR), y] ∧ StrSeq y ao ∧ (∀ r ∈ rs, okR 9 r) ∧ ∀ l : List So, (∀ s, s ∈ l ↔ Rch rs ao s) → Q (.lst (l.map So.d)) μ
section
abbrev N_L_sorts : List Str := ["_law_rows_here", "_law_aside", "_law_found", "_law_at", "_law_other", "_law_here", "_law_there", "_law_sort", "_law_kind"]
theorem sc_L_sorts : FnScope N_L_sorts ["_law_rows_here", "_law_aside"] (defScope sL_sorts) := ⟨rfl, rfl, rfl, by decide +kernel, rfl, by decide +kernel, by decide +kernel⟩
theorem v_L_sorts_rows_here : Nm N_L_sorts (defScope sL_sorts) 0 "_law_rows_here" := ⟨rfl, by decide +kernel, by decide +kernel, by decide +kernel⟩
theorem v_L_sorts_aside : Nm N_L_sorts (defScope sL_sorts) 1 "_law_aside" := ⟨rfl, by decide +kernel, by decide +kernel, by decide +kernel⟩
theorem v_L_sorts_found : Nm N_L_sorts (defScope sL_sorts) 2 "_law_found" := ⟨rfl, by decide +kernel, by decide +kernel, by decide +kernel⟩
theorem v_L_sorts_at : Nm N_L_sorts (defScope sL_sorts) 3 "_law_at" := ⟨rfl, by decide +kernel, by decide +kernel, by decide +kernel⟩
theorem v_L_sorts_other : Nm N_L_sorts (defScope sL_sorts) 4 "_law_other" := ⟨rfl, by decide +kernel, by decide +kernel, by decide +kernel⟩
theorem v_L_sorts_here : Nm N_L_sorts (defScope sL_sorts) 5 "_law_here" := ⟨rfl, by decide +kernel, by decide +kernel, by decide +kernel⟩
theorem v_L_sorts_there : Nm N_L_sorts (defScope sL_sorts) 6 "_law_there" := ⟨rfl, by decide +kernel, by decide +kernel, by decide +kernel⟩
theorem v_L_sorts_sort : Nm N_L_sorts (defScope sL_sorts) 7 "_law_sort" := ⟨rfl, by decide +kernel, by decide +kernel, by decide +kernel⟩
theorem v_L_sorts_kind : Nm N_L_sorts (defScope sL_sorts) 8 "_law_kind" := ⟨rfl, by decide +kernel, by decide +kernel, by decide +kernel⟩
theorem gl_L_sorts_next_sort : (defScope sL_sorts).names.lookup ("_law_next_sort" : Str) = some .globalImplicit := by decide +kernel
theorem gl_L_sorts_len : (defScope sL_sorts).names.lookup ("len" : Str) = some .globalImplicit := by decide +kernel
local macro_rules | `(tactic| walk_at "pd.nm") => `(tactic| first
  | ((with_reducible show ed _ (Expr.Name "_law_rows_here" _) _ _ _); first | refine ed_nm v_L_sorts_rows_here rfl ?_ | refine ed_nmB (sc := defScope sL_sorts) v_L_sorts_rows_here rfl ?_)
  | ((with_reducible show ed _ (Expr.Name "_law_aside" _) _ _ _); first | refine ed_nm v_L_sorts_aside rfl ?_ | refine ed_nmB (sc := defScope sL_sorts) v_L_sorts_aside rfl ?_)
  | ((with_reducible show ed _ (Expr.Name "_law_found" _) _ _ _); first | refine ed_nm v_L_sorts_found rfl ?_ | refine ed_nmB (sc := defScope sL_sorts) v_L_sorts_found rfl ?_)
  | ((with_reducible show ed _ (Expr.Name "_law_at" _) _ _ _); first | refine ed_nm v_L_sorts_at rfl ?_ | refine ed_nmB (sc := defScope sL_sorts) v_L_sorts_at rfl ?_)
  | ((with_reducible show ed _ (Expr.Name "_law_other" _) _ _ _); first | refine ed_nm v_L_sorts_other rfl ?_ | refine ed_nmB (sc := defScope sL_sorts) v_L_sorts_other rfl ?_)
  | ((with_reducible show ed _ (Expr.Name "_law_here" _) _ _ _); first | refine ed_nm v_L_sorts_here rfl ?_ | refine ed_nmB (sc := defScope sL_sorts) v_L_sorts_here rfl ?_)
  | ((with_reducible show ed _ (Expr.Name "_law_there" _) _ _ _); first | refine ed_nm v_L_sorts_there rfl ?_ | refine ed_nmB (sc := defScope sL_sorts) v_L_sorts_there rfl ?_)
  | ((with_reducible show ed _ (Expr.Name "_law_sort" _) _ _ _); first | refine ed_nm v_L_sorts_sort rfl ?_ | refine ed_nmB (sc := defScope sL_sorts) v_L_sorts_sort rfl ?_)
  | ((with_reducible show ed _ (Expr.Name "_law_kind" _) _ _ _); first | refine ed_nm v_L_sorts_kind rfl ?_ | refine ed_nmB (sc := defScope sL_sorts) v_L_sorts_kind rfl ?_)
  | fail)
local macro_rules | `(tactic| walk_at "pd.set") => `(tactic| first
  | ((with_reducible show sd _ (Stmt.Assign [Expr.Name "_law_found" _] _ _) _ _ _); refine sd_nm v_L_sorts_found sc_L_sorts.nd ?_)
  | ((with_reducible show sd _ (Stmt.Assign [Expr.Name "_law_at" _] _ _) _ _ _); refine sd_nm v_L_sorts_at sc_L_sorts.nd ?_)
  | ((with_reducible show sd _ (Stmt.Assign [Expr.Name "_law_other" _] _ _) _ _ _); refine sd_nm v_L_sorts_other sc_L_sorts.nd ?_)
  | ((with_reducible show sd _ (Stmt.Assign [Expr.Name "_law_here" _] _ _) _ _ _); refine sd_nm v_L_sorts_here sc_L_sorts.nd ?_)
  | ((with_reducible show sd _ (Stmt.Assign [Expr.Name "_law_there" _] _ _) _ _ _); refine sd_nm v_L_sorts_there sc_L_sorts.nd ?_)
  | ((with_reducible show sd _ (Stmt.Assign [Expr.Name "_law_sort" _] _ _) _ _ _); refine sd_nm v_L_sorts_sort sc_L_sorts.nd ?_)
  | ((with_reducible show sd _ (Stmt.Assign [Expr.Name "_law_kind" _] _ _) _ _ _); refine sd_nm v_L_sorts_kind sc_L_sorts.nd ?_)
  | fail)
local macro_rules | `(tactic| walk_at "pd.g") => `(tactic| first
  | ((with_reducible show gd _ (Expr.Name "_law_found" _) _ _ _ _); refine gd_nm v_L_sorts_found sc_L_sorts.nd ?_)
  | ((with_reducible show gd _ (Expr.Name "_law_at" _) _ _ _ _); refine gd_nm v_L_sorts_at sc_L_sorts.nd ?_)
  | ((with_reducible show gd _ (Expr.Name "_law_other" _) _ _ _ _); refine gd_nm v_L_sorts_other sc_L_sorts.nd ?_)
  | ((with_reducible show gd _ (Expr.Name "_law_here" _) _ _ _ _); refine gd_nm v_L_sorts_here sc_L_sorts.nd ?_)
  | ((with_reducible show gd _ (Expr.Name "_law_there" _) _ _ _ _); refine gd_nm v_L_sorts_there sc_L_sorts.nd ?_)
  | ((with_reducible show gd _ (Expr.Name "_law_sort" _) _ _ _ _); refine gd_nm v_L_sorts_sort sc_L_sorts.nd ?_)
  | ((with_reducible show gd _ (Expr.Name "_law_kind" _) _ _ _ _); refine gd_nm v_L_sorts_kind sc_L_sorts.nd ?_)
  | fail)
local macro_rules | `(tactic| walk_at "pd.call") => `(tactic| first
  | ((with_reducible show ed _ (Expr.Call (Expr.Name "len" _) (_ :: _) _ _) _ _ _); refine ed_callB (id := "len") (b_len (by assumption)) bb_len ?_ (hg := by first | exact gl_of gl_L_sorts_len))
  | ((with_reducible show ed _ (Expr.Call (Expr.Name "_law_next_sort" _) (_ :: _) _ _) _ _ _); refine ed_callC ((ok_next_sort (by assumption)).at_ _) (by assumption) (by decide) (g_next_sort (by assumption)) ?_ (hg := by first | exact gl_of gl_L_sorts_next_sort))
  | ((with_reducible show ed _ (Expr.Call (Expr.Attribute _ "append" _) (_ :: _) _ _) _ _ _); with_reducible refine ed_bm PySem.F.plainAttrs_list PySem.F.slot_list_append PySem.F.type_list_append ?_)
  | fail)
local macro_rules | `(tactic| walk_at "pd.it") => `(tactic| first
  | ((with_reducible show eid _ _ _ _ _ _); refine eid_of ?_)
  | fail)
local macro_rules | `(tactic| walk_at "pd.par") => `(tactic| first
  | ((with_reducible show sd _ (Stmt.Assign [Expr.Tuple [Expr.Name "_law_found" _, Expr.Name "_law_at" _] _ _] (Expr.Tuple [_, _] _ _) _) _ _ _); refine sd_par2 rfl sc_L_sorts.nd v_L_sorts_found v_L_sorts_at (by decide +kernel) (by decide +kernel) (by decide) ?_)
  | fail)
local macro_rules | `(tactic| walk_at "pd.lst") => `(tactic| refine ed_lstO ?_)
theorem ok_L_sorts (T : T0 w K mg) : CallD P w K mg base 5 (He.ga K "_law_sorts") 2 [] spLSorts := by
  obtain ⟨fd, F⟩ := f_L_sorts T
  refine CallD.mk0 (ps := ["_law_rows_here", "_law_aside"]) F (fun _ _ _ _ _ _ us hl => match us, hl with | [_, _], _ => rfl) (fnD_of F sc_L_sorts fun cdv A outer s H F0 μ ds Qd Ed hr hl h => ?_)
  obtain ⟨rs, y, ao, rfl, hy, hok, kk⟩ := h
  have hu := hr.units
  show sds _ _ (some (.lst (rs.map tupR)) :: some y :: List.replicate 7 none) _ _
  refine sds_cons ?_
  walk_at "pdS"
  intro g
  walk_at "pdS"
  refine sds_cons ?_
  refine sd_while (fun m δ' μ' => ∃ (l : List So) (at_ : Nat) (x4 x5 x6 x7 x8 : Option D), δ' = [some (.lst (rs.map tupR)), some y, some (.ref g), some (.int (at_ : Nat)), x4, x5, x6, x7, x8] ∧ μ' = (g, .lst (l.map So.d)) :: μ ∧ freshS ∈ l ∧ LInv rs ao l l ∧ at_ ≤ l.length ∧ DoneL rs ao l at_ ∧ m = 8 - at_) _ ⟨[freshS], 0, _, _, _, _, _, rfl, rfl, List.mem_singleton.mpr rfl, ⟨List.prefix_rfl, fun s hs => by rw [List.mem_singleton.mp hs]; exact .fresh, by decide⟩, Nat.zero_le _, ⟨fun _ h => (List.not_mem_nil h).elim, fun _ h => (List.not_mem_nil h).elim⟩, rfl⟩ ?_
  rintro m δ' μ' ⟨l, at_, x4, x5, x6, x7, x8, rfl, rfl, h0, hI, hat, hD, rfl⟩
  walk_at "pd"
  rw [List.length_map]
  refine ifd (fun h1 => ?_) (fun h1 => ?_)
  · have h1 : at_ < l.length := by omega
    have h8 := hI.len
    obtain ⟨c, hc⟩ : ∃ c, l[at_]? = some c := ⟨_, List.getElem?_eq_getElem h1⟩
    have hcr : Rch rs ao c := hI.snd c (List.mem_of_getElem? hc)
    walk_at "pdS"
    refine sds_cons ?_
    refine sd_for rfl ?_
    walk_at "pd"
    refine slc_own (xs := l.map So.d) (by simp) ?_
    rw [cutD_toL (by omega), ← List.map_take]
    walk_at "pd"
    have htn : ((at_ : Int) + 1).toNat = at_ + 1 := by omega
    rw [htn]
    refine ⟨fun i δ' μ' => ∃ (l' : List So) (x4 x5 x6 x7 x8 : Option D), δ' = [some (.lst (rs.map tupR)), some y, some (.ref g), some (.int (at_ : Nat)), x4, x5, x6, x7, x8] ∧ μ' = (g, .lst (l'.map So.d)) :: μ ∧ LInv rs ao l l' ∧ ∀ o ∈ (l.take (at_ + 1)).take i, JCl rs ao l' c o ∧ JCl rs ao l' o c, ⟨l, _, _, _, _, _, rfl, rfl, hI, fun _ h => (List.not_mem_nil h).elim⟩, fun _ _ _ _ _ => trivial, ?_, ?_⟩
    · rintro i d δ' μ' hd ⟨l', x4, x5, x6, x7, x8, rfl, rfl, hI', hcl⟩
      rw [List.getElem?_map] at hd
      obtain ⟨o, ho, rfl⟩ := Option.map_eq_some_iff.mp hd
      have hor : Rch rs ao o := hI.snd o (List.mem_of_mem_take (List.mem_of_getElem? ho))
      have hc' := get_pre hI'.pre hc
      walk_at "pdS"
      refine sds_cons ?_
      refine sd_for rfl ?_
      walk_at "pd"
      refine ixd_own (xs := l'.map So.d) List.mem_cons_self (at_so hc') ?_
      walk_at "pd"
      refine ixd_own (xs := l'.map So.d) List.mem_cons_self (at_so hc') ?_
      walk_at "pd"
      refine ⟨fun j δ' μ' => ∃ (l2 : List So) (x5 x6 x7 x8 : Option D), δ' = [some (.lst (rs.map tupR)), some y, some (.ref g), some (.int (at_ : Nat)), some o.d, x5, x6, x7, x8] ∧ μ' = (g, .lst (l2.map So.d)) :: μ ∧ LInv rs ao l l2 ∧ (∀ t ∈ l', t ∈ l2) ∧ (1 ≤ j → JCl rs ao l2 c o) ∧ (2 ≤ j → JCl rs ao l2 o c), ⟨l', _, _, _, _, rfl, rfl, hI', fun _ h => h, fun h => absurd h (by decide), fun h => absurd h (by decide)⟩, fun _ _ _ _ _ => trivial, ?_, ?_⟩
      · rintro j d δ' μ' hd ⟨l2, x5, x6, x7, x8, rfl, rfl, hI2, hs2, hj1, hj2⟩
        obtain ⟨a, b, rfl, ha, hb, hab⟩ : ∃ a b : So, d = .tup [a.d, b.d] ∧ Rch rs ao a ∧ Rch rs ao b ∧ ((j = 0 ∧ a = c ∧ b = o) ∨ (j = 1 ∧ a = o ∧ b = c)) := by
          rcases j with _ | _ | j
          · cases hd; exact ⟨c, o, rfl, hcr, hor, .inl ⟨rfl, rfl, rfl⟩⟩
          · cases hd; exact ⟨o, c, rfl, hor, hcr, .inr ⟨rfl, rfl, rfl⟩⟩
          · cases hd
        have hfin : LInv rs ao l (stepL rs ao l2 "join" a (some b)) ∧ (∀ t ∈ l', t ∈ stepL rs ao l2 "join" a (some b)) ∧ (1 ≤ j + 1 → JCl rs ao (stepL rs ao l2 "join" a (some b)) c o) ∧ (2 ≤ j + 1 → JCl rs ao (stepL rs ao l2 "join" a (some b)) o c) := by
          refine ⟨hI2.step fun hk hg => .two hk ha hb hg, fun t ht => stepL_sub (hs2 t ht), fun _ => ?_, fun hj => ?_⟩
          · rcases hab with ⟨rfl, rfl, rfl⟩ | ⟨rfl, rfl, rfl⟩
            · exact fun hk hg => stepL_in hk hg
            · exact fun hk hg => stepL_sub (hj1 (Nat.le_refl _) hk hg)
          · rcases hab with ⟨rfl, rfl, rfl⟩ | ⟨rfl, rfl, rfl⟩
            · omega
            · exact fun hk hg => stepL_in hk hg
        revert hfin
        unfold stepL
        intro hfin
        have h82 := hI2.len
        walk_at "pdS"
        refine sds_cons ?_
        walk_at "pdS"
        refine ⟨rs, "join", a, some b, rfl, hok, (fun z => by cases z), ?_⟩
        unfold nextD
        walk_at "pd"
        refine opd_notInS ao hy.seq rfl ?_
        walk_at "pd"
        by_cases hk : (Str.ofString "join") ∈ ao
        · rw [if_pos hk] at hfin
          rw [if_neg (by rw [decide_eq_true hk]; decide)]
          walk_at "pd"
          exact ⟨l2, _, _, _, _, rfl, rfl, hfin⟩
        · rw [if_neg hk] at hfin
          rw [if_pos (by rw [decide_eq_false hk]; rfl)]
          walk_at "pd"
          cases hg : goesB rs "join" a (some b) with
          | false =>
            rw [hg, if_neg (by decide)] at hfin
            refine iteFr rfl ?_
            walk_at "pd"
            exact ⟨l2, _, _, _, _, rfl, rfl, hfin⟩
          | true =>
            rw [hg, if_pos rfl] at hfin
            refine iteTr rfl ?_
            walk_at "pd"
            show opd _ _ (sortB rs "join" a (some b)).d (.ref g) _ _ _
            refine opd_notInK (xs := l2.map So.d) (k := (sortB rs "join" a (some b)).k) hu (.own (by simp)) (So.nk _) (So.depth _) (So.all l2) ?_
            rw [So.any]
            walk_at "pd"
            unfold addS at hfin
            by_cases hm : sortB rs "join" a (some b) ∈ l2
            · rw [if_pos hm] at hfin
              refine iteFr (by rw [decide_eq_true hm]; rfl) ?_
              walk_at "pd"
              exact ⟨l2, _, _, _, _, rfl, rfl, hfin⟩
            · rw [if_neg hm] at hfin
              refine iteTr (by rw [decide_eq_false hm]; rfl) ?_
              walk_at "pd"
              refine mtd_append (μ1 := []) (small_lt (by rw [List.length_map]; omega)) ?_
              walk_at "pd"
              exact ⟨l2 ++ [sortB rs "join" a (some b)], _, _, _, _, rfl, by rw [List.map_append]; rfl, hfin⟩
      · rintro δ' μ' ⟨l2, x5, x6, x7, x8, rfl, rfl, hI2, hs2, hj1, hj2⟩
        walk_at "pd"
        refine ⟨l2, _, _, _, _, _, rfl, rfl, hI2, fun o2 ho2 => ?_⟩
        rw [List.take_add_one, ho] at ho2
        rcases List.mem_append.mp ho2 with h | h
        · exact ⟨fun hk hg => hs2 _ ((hcl o2 h).1 hk hg), fun hk hg => hs2 _ ((hcl o2 h).2 hk hg)⟩
        · have : o2 = o := by simpa using h
          subst this
          exact ⟨hj1 (show 1 ≤ 2 by decide), hj2 (show 2 ≤ 2 by decide)⟩
    · rintro δ' μ' ⟨l', x4, x5, x6, x7, x8, rfl, rfl, hI', hcl⟩
      rw [List.length_map, List.take_length] at hcl
      have hc' := get_pre hI'.pre hc
      walk_at "pdS"
      refine sds_cons ?_
      refine sd_for rfl ?_
      walk_at "pd"
      refine ⟨fun j δ' μ' => ∃ (l2 : List So) (x4 x5 x6 x7 x8 : Option D), δ' = [some (.lst (rs.map tupR)), some y, some (.ref g), some (.int (at_ : Nat)), x4, x5, x6, x7, x8] ∧ μ' = (g, .lst (l2.map So.d)) :: μ ∧ LInv rs ao l l2 ∧ (∀ t ∈ l', t ∈ l2) ∧ ∀ k ∈ twoK.take j, OCl rs ao l2 k c, ⟨l', _, _, _, _, _, rfl, rfl, hI', fun _ h => h, fun _ h => (List.not_mem_nil h).elim⟩, fun _ _ _ _ _ => trivial, ?_, ?_⟩
      · rintro j d δ' μ' hd ⟨l2, x4, x5, x6, x7, x8, rfl, rfl, hI2, hs2, hj⟩
        obtain ⟨k, hk2, rfl⟩ : ∃ k, twoK[j]? = some k ∧ d = .str k := by
          have hd : (twoK.map D.str)[j]? = some d := hd
          rw [List.getElem?_map] at hd
          obtain ⟨k, h1, h2⟩ := Option.map_eq_some_iff.mp hd
          exact ⟨k, h1, h2.symm⟩
        have hkm := List.mem_of_getElem? hk2
        have hkn : k ∈ kindsL ∧ k ≠ "new" ∧ k ≠ "join" := (show ∀ k ∈ twoK, k ∈ kindsL ∧ k ≠ "new" ∧ k ≠ "join" by decide +kernel) k hkm
        have hc2 := get_pre hI2.pre hc
        have hfin : LInv rs ao l (stepL rs ao l2 k c none) ∧ (∀ t ∈ l', t ∈ stepL rs ao l2 k c none) ∧ ∀ k' ∈ twoK.take (j + 1), OCl rs ao (stepL rs ao l2 k c none) k' c := by
          refine ⟨hI2.step fun hk hg => .one hkn.1 hk hkn.2.1 hkn.2.2 hcr hg, fun t ht => stepL_sub (hs2 t ht), fun k' hk' => ?_⟩
          rw [List.take_add_one, hk2] at hk'
          rcases List.mem_append.mp hk' with h | h
          · exact fun hk hg => stepL_sub (hj k' h hk hg)
          · have : k' = k := by simpa using h
            subst this
            exact fun hk hg => stepL_in hk hg
        revert hfin
        unfold stepL
        intro hfin
        have h82 := hI2.len
        walk_at "pdS"
        refine sds_cons ?_
        walk_at "pdS"
        refine ixd_own (xs := l2.map So.d) List.mem_cons_self (at_so hc2) ?_
        walk_at "pdS"
        refine ⟨rs, k, c, none, rfl, hok, fun _ => hkn.2.2, ?_⟩
        unfold nextD
        walk_at "pd"
        refine opd_notInS ao hy.seq rfl ?_
        walk_at "pd"
        by_cases hk : k ∈ ao
        · rw [if_pos hk] at hfin
          rw [if_neg (by rw [decide_eq_true hk]; decide)]
          walk_at "pd"
          exact ⟨l2, _, _, _, _, _, rfl, rfl, hfin⟩
        · rw [if_neg hk] at hfin
          rw [if_pos (by rw [decide_eq_false hk]; rfl)]
          walk_at "pd"
          cases hg : goesB rs k c none with
          | false =>
            rw [hg, if_neg (by decide)] at hfin
            refine iteFr rfl ?_
            walk_at "pd"
            exact ⟨l2, _, _, _, _, _, rfl, rfl, hfin⟩
          | true =>
            rw [hg, if_pos rfl] at hfin
            refine iteTr rfl ?_
            walk_at "pd"
            show opd _ _ (sortB rs k c none).d (.ref g) _ _ _
            refine opd_notInK (xs := l2.map So.d) (k := (sortB rs k c none).k) hu (.own (by simp)) (So.nk _) (So.depth _) (So.all l2) ?_
            rw [So.any]
            walk_at "pd"
            unfold addS at hfin
            by_cases hm : sortB rs k c none ∈ l2
            · rw [if_pos hm] at hfin
              refine iteFr (by rw [decide_eq_true hm]; rfl) ?_
              walk_at "pd"
              exact ⟨l2, _, _, _, _, _, rfl, rfl, hfin⟩
            · rw [if_neg hm] at hfin
              refine iteTr (by rw [decide_eq_false hm]; rfl) ?_
              walk_at "pd"
              refine mtd_append (μ1 := []) (small_lt (by rw [List.length_map]; omega)) ?_
              walk_at "pd"
              exact ⟨l2 ++ [sortB rs k c none], _, _, _, _, _, rfl, by rw [List.map_append]; rfl, hfin⟩
      · rintro δ' μ' ⟨l2, x4, x5, x6, x7, x8, rfl, rfl, hI2, hs2, hj⟩
        walk_at "pd"
        refine ⟨_, ?_, l2, at_ + 1, _, _, _, _, _, rfl, rfl, hI2.pre.subset h0, ⟨List.prefix_rfl, hI2.snd, hI2.len⟩, ?_, ?_, rfl⟩
        · have := hI.len; omega
        · have := hI2.pre.length_le; omega
        · have ht : l2.take (at_ + 1) = l.take at_ ++ [c] := by
            rw [take_pre hI2.pre h1, List.take_add_one, hc]; rfl
          have ht0 : l.take (at_ + 1) = l.take at_ ++ [c] := by
            rw [List.take_add_one, hc]; rfl
          have hsub : ∀ t ∈ l, t ∈ l2 := fun t ht => hI2.pre.subset ht
          refine ⟨fun h hh w hw => ?_, fun h hh k hk => ?_⟩
          · rw [ht] at hh hw
            rcases List.mem_append.mp hh with h1 | h1 <;> rcases List.mem_append.mp hw with h2 | h2
            · exact fun a b => hsub _ (hD.j h h1 w h2 a b)
            · rw [List.mem_singleton.mp h2]
              exact fun a b => hs2 _ ((hcl h (ht0 ▸ List.mem_append_left _ h1)).2 a b)
            · rw [List.mem_singleton.mp h1]
              exact fun a b => hs2 _ ((hcl w (ht0 ▸ List.mem_append_left _ h2)).1 a b)
            · rw [List.mem_singleton.mp h1, List.mem_singleton.mp h2]
              exact fun a b => hs2 _ ((hcl c (ht0 ▸ List.mem_append_right _ (List.mem_singleton.mpr rfl))).1 a b)
          · rw [ht] at hh
            rcases List.mem_append.mp hh with h1 | h1
            · exact fun a b => hsub _ (hD.o h h1 k hk a b)
            · rw [List.mem_singleton.mp h1]
              exact hj k hk
  · have h1 : at_ = l.length := by omega
    subst h1
    walk_at "pdS"
    refine sds_freeze_lst (μ1 := []) (i := 2) rfl ?_
    walk_at "pd"
    exact kk l fun s => ⟨hI.snd s, fun h => rch_sub h0 hD.closed h⟩
end
end
section
variable {P : Program} {w : World} {K : PySem.W.Frag} {mg : Str → Option Value} {base : Heap}
/-! ### what is shown of plain data: sizes -/
def ChOk (x : Str) : Prop := ∀ c ∈ x.cps.toList, c < 16 ^ 8
theorem ChOk.of (s : String) : ChOk (Str.ofString s) := fun c hc => by
  rw [Str.ofString_eq_toList] at hc
  simp only [List.mem_map] at hc
  obtain ⟨d, -, rfl⟩ := hc
  have h := d.valid
  have h2 : d.toNat < 1114112 := by
    have : d.val.toNat.isValidChar := d.valid
    rcases this with h | ⟨-, h⟩
    · exact Nat.lt_trans h (by decide)
    · exact h
  exact Nat.lt_trans h2 (by decide)
theorem ChOk.app {x y : Str} (h1 : ChOk x) (h2 : ChOk y) : ChOk (x ++ y) := fun c hc => by
  have e : (x ++ y).cps = x.cps ++ y.cps := rfl
  rw [e, Array.toList_append] at hc
  exact (List.mem_append.mp hc).elim (h1 c) (h2 c)
theorem ChOk.join {s : Str} (hs : ChOk s) : ∀ {xs : List Str}, (∀ x ∈ xs, ChOk x) → ChOk (Str.join s xs)
  | [], _ => ChOk.of ""
  | [x], h => h x List.mem_cons_self
  | x :: y :: r, h => by
    have ih := ChOk.join hs (xs := y :: r) fun z hz => h z (List.mem_cons_of_mem _ hz)
    exact ((h x List.mem_cons_self).app hs).app ih
structure Pl (k N : Nat) (d : D) : Prop where
  ex : ∃ p, pyD d = some p ∧ p.showable = true ∧ p.depth ≤ k ∧ p.leavesShort 13 = true ∧ p.bulk ≤ N
theorem Pl.mono {k k' N N' : Nat} {d : D} (h : Pl k N d) (hk : k ≤ k') (hN : N ≤ N') : Pl k' N' d := by
  obtain ⟨p, h1, h2, h3, h4, h5⟩ := h.ex
  exact ⟨p, h1, h2, by omega, h4, by omega⟩
theorem Pl.non : Pl 0 0 .non := ⟨_, rfl, rfl, by rw [PyData.depth]; exact Nat.le_refl _, by rw [PyData.leavesShort], by rw [PyData.bulk]; exact Nat.le_refl _⟩
theorem Pl.bl (b : Bool) : Pl 0 0 (.bl b) := ⟨_, rfl, rfl, by rw [PyData.depth]; exact Nat.le_refl _, by rw [PyData.leavesShort], by rw [PyData.bulk]; exact Nat.le_refl _⟩
theorem Pl.int {i : Int} (h : i.natAbs < 10 ^ 12) : Pl 0 0 (.int i) := by
  refine ⟨_, rfl, ?_, by rw [PyData.depth]; exact Nat.le_refl _, ?_, by rw [PyData.bulk]; exact Nat.le_refl _⟩
  · rw [PyData.showable, decide_eq_true_eq]
    have h1 : i.natAbs < 2 ^ 40 := Nat.lt_of_lt_of_le h (by decide)
    have h2 : i.natAbs.log2 < 40 := by
      by_cases h0 : i.natAbs = 0
      · rw [h0]; decide
      · exact (Nat.log2_lt h0).mpr h1
    omega
  · rw [PyData.leavesShort, decide_eq_true_eq]
    exact PyData.shown_int_le h
theorem Pl.str {x : Str} {N : Nat} (h : ChOk x) (hl : x.length ≤ N) : Pl 0 N (.str x) := by
  refine ⟨_, rfl, rfl, by rw [PyData.depth]; exact Nat.le_refl _, ?_, by rw [PyData.bulk]; exact hl⟩
  rw [PyData.leavesShort, List.all_eq_true]
  exact fun c hc => decide_eq_true (h c hc)
theorem pls {k N : Nat} : ∀ {l : List D}, (∀ d ∈ l, Pl k N d) → ∃ ps, pyDs l = some ps ∧ PyData.showableAll ps = true ∧ PyData.depthAll ps ≤ k ∧ PyData.leavesShortAll 13 ps = true ∧ PyData.bulkAll ps ≤ l.length * (N + 1)
  | [], _ => ⟨[], by rw [pyDs], by rw [PyData.showableAll], by rw [PyData.depthAll]; exact Nat.zero_le _, by rw [PyData.leavesShortAll], by rw [PyData.bulkAll]; exact Nat.zero_le _⟩
  | d :: l, h => by
    obtain ⟨p, h1, h2, h3, h4, h5⟩ := (h d List.mem_cons_self).ex
    obtain ⟨ps, g1, g2, g3, g4, g5⟩ := pls fun x hx => h x (List.mem_cons_of_mem _ hx)
    refine ⟨p :: ps, by rw [pyDs, h1, g1], by rw [PyData.showableAll, h2, g2]; rfl, by rw [PyData.depthAll]; omega, by rw [PyData.leavesShortAll, h4, g4]; rfl, ?_⟩
    rw [PyData.bulkAll, List.length_cons, Nat.add_mul, Nat.one_mul]; omega
theorem Pl.lst {k N m : Nat} {l : List D} (h : ∀ d ∈ l, Pl k N d) (hl : l.length ≤ m) : Pl (k + 1) (m * (N + 1)) (.lst l) := by
  obtain ⟨ps, g1, g2, g3, g4, g5⟩ := pls h
  have : l.length * (N + 1) ≤ m * (N + 1) := Nat.mul_le_mul_right _ hl
  exact ⟨.list ps, by rw [pyD, g1]; rfl, by rw [PyData.showable]; exact g2, by rw [PyData.depth]; omega, by rw [PyData.leavesShort]; exact g4, by rw [PyData.bulk]; omega⟩
theorem Pl.tup {k N m : Nat} {l : List D} (h : ∀ d ∈ l, Pl k N d) (hl : l.length ≤ m) : Pl (k + 1) (m * (N + 1)) (.tup l) := by
  obtain ⟨ps, g1, g2, g3, g4, g5⟩ := pls h
  have : l.length * (N + 1) ≤ m * (N + 1) := Nat.mul_le_mul_right _ hl
  exact ⟨.tuple ps, by rw [pyD, g1]; rfl, by rw [PyData.showable]; exact g2, by rw [PyData.depth]; omega, by rw [PyData.leavesShort]; exact g4, by rw [PyData.bulk]; omega⟩
/-- a row of such things, their sizes summed -/
def PlL (k N : Nat) (l : List D) : Prop := ∃ ps, pyDs l = some ps ∧ PyData.showableAll ps = true ∧ PyData.depthAll ps ≤ k ∧ PyData.leavesShortAll 13 ps = true ∧ PyData.bulkAll ps ≤ N
theorem PlL.nil {k : Nat} : PlL k 0 [] := ⟨[], by rw [pyDs], by rw [PyData.showableAll], by rw [PyData.depthAll]; exact Nat.zero_le _, by rw [PyData.leavesShortAll], by rw [PyData.bulkAll]; exact Nat.zero_le _⟩
theorem PlL.cons {k N M : Nat} {d : D} {l : List D} (h : Pl k N d) (hs : PlL k M l) : PlL k (N + 1 + M) (d :: l) := by
  obtain ⟨p, h1, h2, h3, h4, h5⟩ := h.ex
  obtain ⟨ps, g1, g2, g3, g4, g5⟩ := hs
  exact ⟨p :: ps, by rw [pyDs, h1, g1], by rw [PyData.showableAll, h2, g2]; rfl, by rw [PyData.depthAll]; omega, by rw [PyData.leavesShortAll, h4, g4]; rfl, by rw [PyData.bulkAll]; omega⟩
theorem PlL.lst {k N : Nat} {l : List D} (h : PlL k N l) : Pl (k + 1) N (.lst l) := by
  obtain ⟨ps, g1, g2, g3, g4, g5⟩ := h
  exact ⟨.list ps, by rw [pyD, g1]; rfl, by rw [PyData.showable]; exact g2, by rw [PyData.depth]; omega, by rw [PyData.leavesShort]; exact g4, by rw [PyData.bulk]; omega⟩
/-- what is shown of it -/
def shD (d : D) : Str := match pyD d with | some p => p.shown | none => Str.ofString ""
section
variable {Γ : Ct} {δ : Dl} {μ : Mu} {Q : D → Mu → Prop} {j k N : Nat}
theorem Pl.fits {d : D} (h : Pl k N d) (hk : k ≤ 60) (hN : N ≤ 2 ^ 20) : ∃ p, pyD d = some p ∧ p.showable = true ∧ p.depth ≤ 60 ∧ p.shown.length ≤ sizeLine ∧ shD d = p.shown := by
  obtain ⟨p, h1, h2, h3, h4, h5⟩ := h.ex
  exact ⟨p, h1, h2, by omega, PyData.shown_fits_bulk (B := 13) (by decide) (by decide) h4 (by omega), by unfold shD; rw [h1]⟩
theorem cld_reprP (hr : PD.Room j Γ.X.A) {d : D} (h : Pl k N d) (hk : k ≤ 60) (hN : N ≤ 2 ^ 20) (hq : (∃ xs, d = .tup xs) ∨ (∃ xs, d = .lst xs) ∨ ∃ xs, d = .rl xs) (q : Q (.str (shD d)) μ) : cld Γ (.builtin "repr") [d] δ μ Q := by
  obtain ⟨p, h1, h2, h3, h4, h5⟩ := h.fits hk hN
  exact cld_reprS hr h1 hq h2 h3 h4 (h5 ▸ q)
end
end
section
variable {P : Program} {w : World} {K : PySem.W.Frag} {mg : Str → Option Value} {base : Heap}
/-! ### the law: sorts of records -/
theorem some_injR {rs rs' : List Rw} (h : rs.map some = rs'.map some) : rs' = rs := by
  have h2 := congrArg (List.filterMap id) h
  rw [List.filterMap_map, List.filterMap_map] at h2
  simpa using h2.symm
theorem okR_ok {r : Rw} {n : Nat} (h : okR n r) (hn : n ≤ 100) : r.ok := ⟨h.1, Nat.le_trans h.2.1 (by decide), Nat.le_trans h.2.2 hn⟩
/-- the text of a drawn store, read -/
theorem read_drawn {K : PySem.W.Frag} {μ : Mu} {Q : D → Mu → Prop} {E : Value → List Str → List D → Mu → Prop} {rs : List Rw} (hok : ∀ r ∈ rs, okR 7 r) (hne : rs ≠ []) (hl : rs.length ≤ 20) (q : Q (storeD K rs) μ) : spStoreReadX K [.ref (He.ga K "Store"), .str (Txt.join "\n" (rs.map Rw.txt))] μ Q E := by
  have hok' : ∀ r ∈ rs, r.ok := fun r hr => okR_ok (hok r hr) (by decide)
  have hlin : linesOf (Txt.join "\n" (rs.map Rw.txt)) = rs.map Rw.txt := by
    refine linesOf_join (by simpa using hne) (fun l hl => ?_) fun e => ?_
    · obtain ⟨r, hr, rfl⟩ := List.mem_map.mp hl
      exact row_nl (hok' r hr)
    · cases rs with
      | nil => exact hne rfl
      | cons r rs =>
        have e : r.txt = Str.ofString "" := (List.cons.inj e).1
        exact row_ne (hok' r List.mem_cons_self) e
  have hl1 : ∀ x ∈ rs.map Rw.txt, x.length ≤ 360 := fun x hx => by
    obtain ⟨r, hr2, rfl⟩ := List.mem_map.mp hx
    exact rtxt_le (hok r hr2)
  have l2 : (Str.ofString "\n").length = 1 := by decide
  refine ⟨_, rfl, ?_, ?_, ?_, fun j l h1 h2 h3 G => absurd h2 ?_, fun rs' hrs' => ?_⟩
  · have := join_le (w := "\n") (n := 360) (c := 20) (by simpa using hne) hl1 (by rw [List.length_map]; exact hl)
    omega
  · rw [hlin, List.length_map]; omega
  · rw [hlin]
    exact fun l hl => Nat.le_trans (hl1 l hl) (by decide)
  · rw [hlin] at h1
    obtain ⟨r, hr1, rfl⟩ := List.mem_map.mp (List.mem_of_getElem? h1)
    rw [read_own (hok' r hr1)]
    exact fun h => nomatch h
  rw [hlin, lines_all hok'] at hrs'
  obtain rfl := some_injR hrs'
  exact ⟨fun r hr => (hok' r hr).wn, q⟩
theorem pl_so (s : So) : Pl 1 3 s.d := by
  have h : ∀ d ∈ [D.bl s.p, D.bl s.s, D.bl s.l], Pl 0 0 d := fun d hd => by
    simp only [List.mem_cons, List.not_mem_nil, or_false] at hd
    rcases hd with rfl | rfl | rfl <;> exact Pl.bl _
  exact Pl.tup (m := 3) h (show 3 ≤ 3 by decide)
theorem pl_sorts (l : List So) : Pl 2 32 (sortsD l) := by
  unfold sortsD
  refine Pl.tup (N := 3) (m := 8) (fun d hd => ?_) ?_
  · obtain ⟨s, -, rfl⟩ := List.mem_map.mp hd
    exact pl_so s
  · rw [List.length_map]
    exact List.length_filter_le _ _
theorem rch_aside {rs : List Rw} {s : So} (h : Rch rs kindsL s) : s = freshS := by
  induction h with
  | fresh => rfl
  | one hk ha => exact absurd hk ha
  | two ha => exact absurd (show ("join" : Str) ∈ kindsL by decide) ha
theorem sortB_nil (k : Str) (h : So) (w : Option So) : sortB [] k h w = h := rfl
theorem rch_nil {ao : List Str} {s : So} (h : Rch [] ao s) : s = freshS := by
  induction h with
  | fresh => rfl
  | one _ _ _ _ _ _ ih => rw [sortB_nil]; exact ih
  | two _ _ _ _ ih _ => rw [sortB_nil]; exact ih
theorem sortsD_one {l : List So} (h : ∀ s, s ∈ l ↔ s = freshS) : sortsD l = .tup [.tup [.bl false, .bl false, .bl true]] := by
  have e : (allSo.filter fun s => decide (s ∈ l)) = allSo.filter fun s => decide (s = freshS) := List.filter_congr fun s _ => by
    by_cases hs : s = freshS
    · rw [decide_eq_true hs, decide_eq_true ((h s).mpr hs)]
    · rw [decide_eq_false hs, decide_eq_false fun z => hs ((h s).mp z)]
  unfold sortsD
  rw [e]
  rfl
theorem sortsD_congr {l l2 : List So} (h : ∀ s, s ∈ l ↔ s ∈ l2) : sortsD l = sortsD l2 := by
  unfold sortsD
  rw [List.filter_congr fun s _ => (by rw [decide_eq_decide]; exact h s : decide (s ∈ l) = decide (s ∈ l2))]
section
abbrev N_law : List Str := ["_law_script", "_law_deal_here", "_law_kinds", "_law_turn", "_law_rows_here", "_law_store", "_law_aside", "_law_kind", "_law_both", "_law_due", "_law_points", "_law_struck", "_law_live", "_law_some", "_law_sort"]
theorem sc_law : FnScope N_law ["_law_script"] (defScope slaw) := ⟨rfl, rfl, rfl, by decide +kernel, rfl, by decide +kernel, by decide +kernel⟩
theorem v_law_script : Nm N_law (defScope slaw) 0 "_law_script" := ⟨rfl, by decide +kernel, by decide +kernel, by decide +kernel⟩
theorem v_law_deal_here : Nm N_law (defScope slaw) 1 "_law_deal_here" := ⟨rfl, by decide +kernel, by decide +kernel, by decide +kernel⟩
theorem v_law_kinds : Nm N_law (defScope slaw) 2 "_law_kinds" := ⟨rfl, by decide +kernel, by decide +kernel, by decide +kernel⟩
theorem v_law_turn : Nm N_law (defScope slaw) 3 "_law_turn" := ⟨rfl, by decide +kernel, by decide +kernel, by decide +kernel⟩
theorem v_law_rows_here : Nm N_law (defScope slaw) 4 "_law_rows_here" := ⟨rfl, by decide +kernel, by decide +kernel, by decide +kernel⟩
theorem v_law_store : Nm N_law (defScope slaw) 5 "_law_store" := ⟨rfl, by decide +kernel, by decide +kernel, by decide +kernel⟩
theorem v_law_aside : Nm N_law (defScope slaw) 6 "_law_aside" := ⟨rfl, by decide +kernel, by decide +kernel, by decide +kernel⟩
theorem w_law_kind : NmB N_law 7 "_law_kind" := ⟨rfl, by decide +kernel, by decide +kernel⟩
theorem v_law_both : Nm N_law (defScope slaw) 8 "_law_both" := ⟨rfl, by decide +kernel, by decide +kernel, by decide +kernel⟩
theorem v_law_due : Nm N_law (defScope slaw) 9 "_law_due" := ⟨rfl, by decide +kernel, by decide +kernel, by decide +kernel⟩
theorem v_law_points : Nm N_law (defScope slaw) 10 "_law_points" := ⟨rfl, by decide +kernel, by decide +kernel, by decide +kernel⟩
theorem v_law_struck : Nm N_law (defScope slaw) 11 "_law_struck" := ⟨rfl, by decide +kernel, by decide +kernel, by decide +kernel⟩
theorem w_law_live : NmB N_law 12 "_law_live" := ⟨rfl, by decide +kernel, by decide +kernel⟩
theorem v_law_some : Nm N_law (defScope slaw) 13 "_law_some" := ⟨rfl, by decide +kernel, by decide +kernel, by decide +kernel⟩
theorem w_law_sort : NmB N_law 14 "_law_sort" := ⟨rfl, by decide +kernel, by decide +kernel⟩
theorem gl_law_Store : (defScope slaw).names.lookup ("Store" : Str) = some .globalImplicit := by decide +kernel
theorem gl_law_deal : (defScope slaw).names.lookup ("_law_deal" : Str) = some .globalImplicit := by decide +kernel
theorem gl_law_rows : (defScope slaw).names.lookup ("_law_rows" : Str) = some .globalImplicit := by decide +kernel
theorem gl_law_L_sorts : (defScope slaw).names.lookup ("_law_sorts" : Str) = some .globalImplicit := by decide +kernel
theorem gl_law_text : (defScope slaw).names.lookup ("_law_text" : Str) = some .globalImplicit := by decide +kernel
theorem gl_law_range : (defScope slaw).names.lookup ("range" : Str) = some .globalImplicit := by decide +kernel
theorem gl_law_repr : (defScope slaw).names.lookup ("repr" : Str) = some .globalImplicit := by decide +kernel
theorem gl_law_sorts : (defScope slaw).names.lookup ("sorts" : Str) = some .globalImplicit := by decide +kernel
theorem gl_law_tuple : (defScope slaw).names.lookup ("tuple" : Str) = some .globalImplicit := by decide +kernel
-- _law_deal_here is a cell
theorem sl_law_kinds : (defScope slaw).names.lookup ("_law_kinds" : Str) = some .local := by decide +kernel
theorem sl_law_turn : (defScope slaw).names.lookup ("_law_turn" : Str) = some .local := by decide +kernel
theorem sl_law_rows_here : (defScope slaw).names.lookup ("_law_rows_here" : Str) = some .local := by decide +kernel
theorem sl_law_store : (defScope slaw).names.lookup ("_law_store" : Str) = some .local := by decide +kernel
theorem sl_law_aside : (defScope slaw).names.lookup ("_law_aside" : Str) = some .local := by decide +kernel
theorem sl_law_both : (defScope slaw).names.lookup ("_law_both" : Str) = some .local := by decide +kernel
theorem sl_law_due : (defScope slaw).names.lookup ("_law_due" : Str) = some .local := by decide +kernel
-- _law_points is a cell
-- _law_struck is a cell
-- _law_some is a cell
local macro_rules | `(tactic| walk_at "pd.nm") => `(tactic| first
  | ((with_reducible show ed _ (Expr.Name "_law_script" _) _ _ _); first | refine ed_nm v_law_script rfl ?_ | refine ed_nmB (sc := defScope slaw) v_law_script rfl ?_)
  | ((with_reducible show ed _ (Expr.Name "_law_deal_here" _) _ _ _); first | refine ed_nm v_law_deal_here rfl ?_ | refine ed_nmB (sc := defScope slaw) v_law_deal_here rfl ?_)
  | ((with_reducible show ed _ (Expr.Name "_law_kinds" _) _ _ _); first | refine ed_nm v_law_kinds rfl ?_ | refine ed_nmB (sc := defScope slaw) v_law_kinds rfl ?_)
  | ((with_reducible show ed _ (Expr.Name "_law_turn" _) _ _ _); first | refine ed_nm v_law_turn rfl ?_ | refine ed_nmB (sc := defScope slaw) v_law_turn rfl ?_)
  | ((with_reducible show ed _ (Expr.Name "_law_rows_here" _) _ _ _); first | refine ed_nm v_law_rows_here rfl ?_ | refine ed_nmB (sc := defScope slaw) v_law_rows_here rfl ?_)
  | ((with_reducible show ed _ (Expr.Name "_law_store" _) _ _ _); first | refine ed_nm v_law_store rfl ?_ | refine ed_nmB (sc := defScope slaw) v_law_store rfl ?_)
  | ((with_reducible show ed _ (Expr.Name "_law_aside" _) _ _ _); first | refine ed_nm v_law_aside rfl ?_ | refine ed_nmB (sc := defScope slaw) v_law_aside rfl ?_)
  | ((with_reducible show ed _ (Expr.Name "_law_kind" _) _ _ _); refine ed_nmC (sc := defScope slaw) w_law_kind rfl ?_)
  | ((with_reducible show ed _ (Expr.Name "_law_both" _) _ _ _); first | refine ed_nm v_law_both rfl ?_ | refine ed_nmB (sc := defScope slaw) v_law_both rfl ?_)
  | ((with_reducible show ed _ (Expr.Name "_law_due" _) _ _ _); first | refine ed_nm v_law_due rfl ?_ | refine ed_nmB (sc := defScope slaw) v_law_due rfl ?_)
  | ((with_reducible show ed _ (Expr.Name "_law_points" _) _ _ _); first | refine ed_nm v_law_points rfl ?_ | refine ed_nmB (sc := defScope slaw) v_law_points rfl ?_)
  | ((with_reducible show ed _ (Expr.Name "_law_struck" _) _ _ _); first | refine ed_nm v_law_struck rfl ?_ | refine ed_nmB (sc := defScope slaw) v_law_struck rfl ?_)
  | ((with_reducible show ed _ (Expr.Name "_law_live" _) _ _ _); refine ed_nmC (sc := defScope slaw) w_law_live rfl ?_)
  | ((with_reducible show ed _ (Expr.Name "_law_some" _) _ _ _); first | refine ed_nm v_law_some rfl ?_ | refine ed_nmB (sc := defScope slaw) v_law_some rfl ?_)
  | ((with_reducible show ed _ (Expr.Name "_law_sort" _) _ _ _); refine ed_nmC (sc := defScope slaw) w_law_sort rfl ?_)
  | ((with_reducible show ed _ (Expr.Name "Store" _) _ _ _); refine ed_gref (g_Store (by assumption)) ?_ (hg := by first | exact gl_of gl_law_Store))
  | ((with_reducible show ed _ (Expr.Name "range" _) _ _ _); refine ed_ty (n := "range") (b_range (by assumption)) bb_range ?_ (hg := by first | exact gl_of gl_law_range))
  | ((with_reducible show ed _ (Expr.Name "tuple" _) _ _ _); refine ed_ty (n := "tuple") (b_tuple (by assumption)) bb_tuple ?_ (hg := by first | exact gl_of gl_law_tuple))
  | fail)
local macro_rules | `(tactic| walk_at "pd.set") => `(tactic| first
  | ((with_reducible show sd _ (Stmt.Assign [Expr.Name "_law_kinds" _] (Expr.ListComp _ _ _ _) _) _ _ _); refine sd_setLc (own := [("_law_kind", 7)]) (i := 2) rfl sc_law.nd rfl (by exact sl_law_kinds) (sw_true rfl (by exact sl_law_kinds) rfl (by decide +kernel)) (blkOk_by (N := N_law) (sc := defScope slaw) (by decide +kernel)) ?_)
  | ((with_reducible show sd _ (Stmt.Assign [Expr.Name "_law_kinds" _] (Expr.ListComp _ _ _ _) _) _ _ _); refine sd_setLc (own := [("_law_live", 12)]) (i := 2) rfl sc_law.nd rfl (by exact sl_law_kinds) (sw_true rfl (by exact sl_law_kinds) rfl (by decide +kernel)) (blkOk_by (N := N_law) (sc := defScope slaw) (by decide +kernel)) ?_)
  | ((with_reducible show sd _ (Stmt.Assign [Expr.Name "_law_kinds" _] (Expr.ListComp _ _ _ _) _) _ _ _); refine sd_setLc (own := [("_law_sort", 14)]) (i := 2) rfl sc_law.nd rfl (by exact sl_law_kinds) (sw_true rfl (by exact sl_law_kinds) rfl (by decide +kernel)) (blkOk_by (N := N_law) (sc := defScope slaw) (by decide +kernel)) ?_)
  | ((with_reducible show sd _ (Stmt.Assign [Expr.Name "_law_turn" _] (Expr.ListComp _ _ _ _) _) _ _ _); refine sd_setLc (own := [("_law_kind", 7)]) (i := 3) rfl sc_law.nd rfl (by exact sl_law_turn) (sw_true rfl (by exact sl_law_turn) rfl (by decide +kernel)) (blkOk_by (N := N_law) (sc := defScope slaw) (by decide +kernel)) ?_)
  | ((with_reducible show sd _ (Stmt.Assign [Expr.Name "_law_turn" _] (Expr.ListComp _ _ _ _) _) _ _ _); refine sd_setLc (own := [("_law_live", 12)]) (i := 3) rfl sc_law.nd rfl (by exact sl_law_turn) (sw_true rfl (by exact sl_law_turn) rfl (by decide +kernel)) (blkOk_by (N := N_law) (sc := defScope slaw) (by decide +kernel)) ?_)
  | ((with_reducible show sd _ (Stmt.Assign [Expr.Name "_law_turn" _] (Expr.ListComp _ _ _ _) _) _ _ _); refine sd_setLc (own := [("_law_sort", 14)]) (i := 3) rfl sc_law.nd rfl (by exact sl_law_turn) (sw_true rfl (by exact sl_law_turn) rfl (by decide +kernel)) (blkOk_by (N := N_law) (sc := defScope slaw) (by decide +kernel)) ?_)
  | ((with_reducible show sd _ (Stmt.Assign [Expr.Name "_law_rows_here" _] (Expr.ListComp _ _ _ _) _) _ _ _); refine sd_setLc (own := [("_law_kind", 7)]) (i := 4) rfl sc_law.nd rfl (by exact sl_law_rows_here) (sw_true rfl (by exact sl_law_rows_here) rfl (by decide +kernel)) (blkOk_by (N := N_law) (sc := defScope slaw) (by decide +kernel)) ?_)
  | ((with_reducible show sd _ (Stmt.Assign [Expr.Name "_law_rows_here" _] (Expr.ListComp _ _ _ _) _) _ _ _); refine sd_setLc (own := [("_law_live", 12)]) (i := 4) rfl sc_law.nd rfl (by exact sl_law_rows_here) (sw_true rfl (by exact sl_law_rows_here) rfl (by decide +kernel)) (blkOk_by (N := N_law) (sc := defScope slaw) (by decide +kernel)) ?_)
  | ((with_reducible show sd _ (Stmt.Assign [Expr.Name "_law_rows_here" _] (Expr.ListComp _ _ _ _) _) _ _ _); refine sd_setLc (own := [("_law_sort", 14)]) (i := 4) rfl sc_law.nd rfl (by exact sl_law_rows_here) (sw_true rfl (by exact sl_law_rows_here) rfl (by decide +kernel)) (blkOk_by (N := N_law) (sc := defScope slaw) (by decide +kernel)) ?_)
  | ((with_reducible show sd _ (Stmt.Assign [Expr.Name "_law_store" _] (Expr.ListComp _ _ _ _) _) _ _ _); refine sd_setLc (own := [("_law_kind", 7)]) (i := 5) rfl sc_law.nd rfl (by exact sl_law_store) (sw_true rfl (by exact sl_law_store) rfl (by decide +kernel)) (blkOk_by (N := N_law) (sc := defScope slaw) (by decide +kernel)) ?_)
  | ((with_reducible show sd _ (Stmt.Assign [Expr.Name "_law_store" _] (Expr.ListComp _ _ _ _) _) _ _ _); refine sd_setLc (own := [("_law_live", 12)]) (i := 5) rfl sc_law.nd rfl (by exact sl_law_store) (sw_true rfl (by exact sl_law_store) rfl (by decide +kernel)) (blkOk_by (N := N_law) (sc := defScope slaw) (by decide +kernel)) ?_)
  | ((with_reducible show sd _ (Stmt.Assign [Expr.Name "_law_store" _] (Expr.ListComp _ _ _ _) _) _ _ _); refine sd_setLc (own := [("_law_sort", 14)]) (i := 5) rfl sc_law.nd rfl (by exact sl_law_store) (sw_true rfl (by exact sl_law_store) rfl (by decide +kernel)) (blkOk_by (N := N_law) (sc := defScope slaw) (by decide +kernel)) ?_)
  | ((with_reducible show sd _ (Stmt.Assign [Expr.Name "_law_aside" _] (Expr.ListComp _ _ _ _) _) _ _ _); refine sd_setLc (own := [("_law_kind", 7)]) (i := 6) rfl sc_law.nd rfl (by exact sl_law_aside) (sw_true rfl (by exact sl_law_aside) rfl (by decide +kernel)) (blkOk_by (N := N_law) (sc := defScope slaw) (by decide +kernel)) ?_)
  | ((with_reducible show sd _ (Stmt.Assign [Expr.Name "_law_aside" _] (Expr.ListComp _ _ _ _) _) _ _ _); refine sd_setLc (own := [("_law_live", 12)]) (i := 6) rfl sc_law.nd rfl (by exact sl_law_aside) (sw_true rfl (by exact sl_law_aside) rfl (by decide +kernel)) (blkOk_by (N := N_law) (sc := defScope slaw) (by decide +kernel)) ?_)
  | ((with_reducible show sd _ (Stmt.Assign [Expr.Name "_law_aside" _] (Expr.ListComp _ _ _ _) _) _ _ _); refine sd_setLc (own := [("_law_sort", 14)]) (i := 6) rfl sc_law.nd rfl (by exact sl_law_aside) (sw_true rfl (by exact sl_law_aside) rfl (by decide +kernel)) (blkOk_by (N := N_law) (sc := defScope slaw) (by decide +kernel)) ?_)
  | ((with_reducible show sd _ (Stmt.Assign [Expr.Name "_law_both" _] (Expr.ListComp _ _ _ _) _) _ _ _); refine sd_setLc (own := [("_law_kind", 7)]) (i := 8) rfl sc_law.nd rfl (by exact sl_law_both) (sw_true rfl (by exact sl_law_both) rfl (by decide +kernel)) (blkOk_by (N := N_law) (sc := defScope slaw) (by decide +kernel)) ?_)
  | ((with_reducible show sd _ (Stmt.Assign [Expr.Name "_law_both" _] (Expr.ListComp _ _ _ _) _) _ _ _); refine sd_setLc (own := [("_law_live", 12)]) (i := 8) rfl sc_law.nd rfl (by exact sl_law_both) (sw_true rfl (by exact sl_law_both) rfl (by decide +kernel)) (blkOk_by (N := N_law) (sc := defScope slaw) (by decide +kernel)) ?_)
  | ((with_reducible show sd _ (Stmt.Assign [Expr.Name "_law_both" _] (Expr.ListComp _ _ _ _) _) _ _ _); refine sd_setLc (own := [("_law_sort", 14)]) (i := 8) rfl sc_law.nd rfl (by exact sl_law_both) (sw_true rfl (by exact sl_law_both) rfl (by decide +kernel)) (blkOk_by (N := N_law) (sc := defScope slaw) (by decide +kernel)) ?_)
  | ((with_reducible show sd _ (Stmt.Assign [Expr.Name "_law_due" _] (Expr.ListComp _ _ _ _) _) _ _ _); refine sd_setLc (own := [("_law_kind", 7)]) (i := 9) rfl sc_law.nd rfl (by exact sl_law_due) (sw_true rfl (by exact sl_law_due) rfl (by decide +kernel)) (blkOk_by (N := N_law) (sc := defScope slaw) (by decide +kernel)) ?_)
  | ((with_reducible show sd _ (Stmt.Assign [Expr.Name "_law_due" _] (Expr.ListComp _ _ _ _) _) _ _ _); refine sd_setLc (own := [("_law_live", 12)]) (i := 9) rfl sc_law.nd rfl (by exact sl_law_due) (sw_true rfl (by exact sl_law_due) rfl (by decide +kernel)) (blkOk_by (N := N_law) (sc := defScope slaw) (by decide +kernel)) ?_)
  | ((with_reducible show sd _ (Stmt.Assign [Expr.Name "_law_due" _] (Expr.ListComp _ _ _ _) _) _ _ _); refine sd_setLc (own := [("_law_sort", 14)]) (i := 9) rfl sc_law.nd rfl (by exact sl_law_due) (sw_true rfl (by exact sl_law_due) rfl (by decide +kernel)) (blkOk_by (N := N_law) (sc := defScope slaw) (by decide +kernel)) ?_)
  | ((with_reducible show sd _ (Stmt.Assign [Expr.Name "_law_deal_here" _] _ _) _ _ _); refine sd_nm v_law_deal_here sc_law.nd ?_)
  | ((with_reducible show sd _ (Stmt.Assign [Expr.Name "_law_kinds" _] _ _) _ _ _); refine sd_nm v_law_kinds sc_law.nd ?_)
  | ((with_reducible show sd _ (Stmt.Assign [Expr.Name "_law_turn" _] _ _) _ _ _); refine sd_nm v_law_turn sc_law.nd ?_)
  | ((with_reducible show sd _ (Stmt.Assign [Expr.Name "_law_rows_here" _] _ _) _ _ _); refine sd_nm v_law_rows_here sc_law.nd ?_)
  | ((with_reducible show sd _ (Stmt.Assign [Expr.Name "_law_store" _] _ _) _ _ _); refine sd_nm v_law_store sc_law.nd ?_)
  | ((with_reducible show sd _ (Stmt.Assign [Expr.Name "_law_aside" _] _ _) _ _ _); refine sd_nm v_law_aside sc_law.nd ?_)
  | ((with_reducible show sd _ (Stmt.Assign [Expr.Name "_law_both" _] _ _) _ _ _); refine sd_nm v_law_both sc_law.nd ?_)
  | ((with_reducible show sd _ (Stmt.Assign [Expr.Name "_law_due" _] _ _) _ _ _); refine sd_nm v_law_due sc_law.nd ?_)
  | ((with_reducible show sd _ (Stmt.Assign [Expr.Name "_law_points" _] _ _) _ _ _); refine sd_nm v_law_points sc_law.nd ?_)
  | ((with_reducible show sd _ (Stmt.Assign [Expr.Name "_law_struck" _] _ _) _ _ _); refine sd_nm v_law_struck sc_law.nd ?_)
  | ((with_reducible show sd _ (Stmt.Assign [Expr.Name "_law_some" _] _ _) _ _ _); refine sd_nm v_law_some sc_law.nd ?_)
  | fail)
local macro_rules | `(tactic| walk_at "pd.g") => `(tactic| first
  | ((with_reducible show gd _ (Expr.Name "_law_deal_here" _) _ _ _ _); refine gd_nm v_law_deal_here sc_law.nd ?_)
  | ((with_reducible show gd _ (Expr.Name "_law_kinds" _) _ _ _ _); refine gd_nm v_law_kinds sc_law.nd ?_)
  | ((with_reducible show gd _ (Expr.Name "_law_turn" _) _ _ _ _); refine gd_nm v_law_turn sc_law.nd ?_)
  | ((with_reducible show gd _ (Expr.Name "_law_rows_here" _) _ _ _ _); refine gd_nm v_law_rows_here sc_law.nd ?_)
  | ((with_reducible show gd _ (Expr.Name "_law_store" _) _ _ _ _); refine gd_nm v_law_store sc_law.nd ?_)
  | ((with_reducible show gd _ (Expr.Name "_law_aside" _) _ _ _ _); refine gd_nm v_law_aside sc_law.nd ?_)
  | ((with_reducible show gv _ (Expr.Name "_law_kind" _) _ _ _ _ _); refine gv_nmC (sc := defScope slaw) w_law_kind sc_law.nd (by decide) ?_)
  | ((with_reducible show gd _ (Expr.Name "_law_both" _) _ _ _ _); refine gd_nm v_law_both sc_law.nd ?_)
  | ((with_reducible show gd _ (Expr.Name "_law_due" _) _ _ _ _); refine gd_nm v_law_due sc_law.nd ?_)
  | ((with_reducible show gd _ (Expr.Name "_law_points" _) _ _ _ _); refine gd_nm v_law_points sc_law.nd ?_)
  | ((with_reducible show gd _ (Expr.Name "_law_struck" _) _ _ _ _); refine gd_nm v_law_struck sc_law.nd ?_)
  | ((with_reducible show gv _ (Expr.Name "_law_live" _) _ _ _ _ _); refine gv_nmC (sc := defScope slaw) w_law_live sc_law.nd (by decide) ?_)
  | ((with_reducible show gd _ (Expr.Name "_law_some" _) _ _ _ _); refine gd_nm v_law_some sc_law.nd ?_)
  | ((with_reducible show gv _ (Expr.Name "_law_sort" _) _ _ _ _ _); refine gv_nmC (sc := defScope slaw) w_law_sort sc_law.nd (by decide) ?_)
  | fail)
local macro_rules | `(tactic| walk_at "pd.call") => `(tactic| first
  | ((with_reducible show ed _ (Expr.Call (Expr.Attribute (Expr.Name "Store" _) "read" _) (_ :: _) _ _) _ _ _); refine ed_cmC (cm_Store_read (by assumption)) ((ok_Store_read (by assumption)).at_ _) (by assumption) (by decide) ?_)
  | ((with_reducible show ed _ (Expr.Call (Expr.Name "sorts" _) (_ :: _) [_] _) _ _ _); refine ed_callKw (okk_sorts (by assumption)) (by assumption) (by decide) (g_sorts (by assumption)) ?_ (hg := by first | exact gl_of gl_law_sorts))
  | ((with_reducible show ed _ (Expr.Call (Expr.Name "_law_deal" _) (_ :: _) _ _) _ _ _); refine ed_callC ((ok_deal (by assumption)).at_ _) (by assumption) (by decide) (g_deal (by assumption)) ?_ (hg := by first | exact gl_of gl_law_deal))
  | ((with_reducible show ed _ (Expr.Call (Expr.Name "_law_rows" _) (_ :: _) _ _) _ _ _); refine ed_callC ((ok_rows (by assumption)).at_ _) (by assumption) (by decide) (g_rows (by assumption)) ?_ (hg := by first | exact gl_of gl_law_rows))
  | ((with_reducible show ed _ (Expr.Call (Expr.Name "_law_sorts" _) (_ :: _) _ _) _ _ _); refine ed_callC ((ok_L_sorts (by assumption)).at_ _) (by assumption) (by decide) (g_L_sorts (by assumption)) ?_ (hg := by first | exact gl_of gl_law_L_sorts))
  | ((with_reducible show ed _ (Expr.Call (Expr.Name "sorts" _) (_ :: _) _ _) _ _ _); refine ed_callC ((ok_sorts (by assumption)).at_ _) (by assumption) (by decide) (g_sorts (by assumption)) ?_ (hg := by first | exact gl_of gl_law_sorts))
  | ((with_reducible show ed _ (Expr.Call (Expr.Name "_law_text" _) (_ :: _) _ _) _ _ _); refine ed_callC ((ok_text (by assumption)).at_ _) (by assumption) (by decide) (g_text (by assumption)) ?_ (hg := by first | exact gl_of gl_law_text))
  | ((with_reducible show ed _ (Expr.Call (Expr.Name "repr" _) (_ :: _) _ _) _ _ _); refine ed_callB (id := "repr") (b_repr (by assumption)) bb_repr ?_ (hg := by first | exact gl_of gl_law_repr))
  | ((with_reducible show ed _ (Expr.Call (Expr.Name "Store" _) [] _ _) _ _ _); refine ed_makeC0 (mk_Store_0 (by assumption)) (by assumption) (by decide) (g_Store (by assumption)) ?_ (hg := by first | exact gl_of gl_law_Store))
  | ((with_reducible show ed _ (Expr.Call (Expr.Name "tuple" _) (_ :: _) _ _) _ _ _); refine ed_callTy (T := "tuple") (b_tuple (by assumption)) bb_tuple ?_ (hg := by first | exact gl_of gl_law_tuple))
  | ((with_reducible show ed _ (Expr.Call (Expr.Name "_law_draw" _) (_ :: _) _ _) _ _ _); refine ed_callC ((ok_draw (by assumption)).at_ _) (by assumption) (by decide) (g_draw (by assumption)) ?_ (hg := by first | exact glB_of (sc := defScope slaw)))
  | fail)
local macro_rules | `(tactic| walk_at "pd.lc") => `(tactic| first
  | ((with_reducible show ed _ (Expr.ListComp _ [_] _ _) _ _ _); refine ed_lc (own := [("_law_kind", 7)]) [("_law_kind", 7)] rfl rfl sc_law.nd (blkOk_by (N := N_law) (sc := defScope slaw) (by decide +kernel)) ?_)
  | ((with_reducible show ed _ (Expr.ListComp _ [_] _ _) _ _ _); refine ed_lc (own := [("_law_live", 12)]) [("_law_live", 12)] rfl rfl sc_law.nd (blkOk_by (N := N_law) (sc := defScope slaw) (by decide +kernel)) ?_)
  | ((with_reducible show ed _ (Expr.ListComp _ [_] _ _) _ _ _); refine ed_lc (own := [("_law_sort", 14)]) [("_law_sort", 14)] rfl rfl sc_law.nd (blkOk_by (N := N_law) (sc := defScope slaw) (by decide +kernel)) ?_)
  | fail)
local macro_rules | `(tactic| walk_at "pd.it") => `(tactic| first
  | ((with_reducible show eid _ _ (Expr.Call (Expr.Name "range" _) [_] _ _) _ _ _); refine eid_range (b_range (by assumption)) ?_ (hg := by first | exact gl_of gl_law_range))
  | ((with_reducible show eid _ _ (Expr.Call (Expr.Name "range" _) [_, _] _ _) _ _ _); refine eid_range2 (b_range (by assumption)) ?_ (hg := by first | exact gl_of gl_law_range))
  | ((with_reducible show eid _ _ _ _ _ _); refine eid_of ?_)
  | fail)
theorem ok_law (T : T0 w K mg) {fd : FuncData} (F : FunD K "law" "law" (defArgs slaw) (defBody slaw) (defScope slaw) (dlaw.dvs K) (dlaw.kws K) (He.fAd K dlaw.at_) fd) : FnD false P w K mg base 10 (He.ga K "law") fd ["_law_script"] spLaw := by
  refine fnD_of F sc_law fun cdv A outer s H F0 μ ds Qd Ed hr hl h => ?_
  obtain ⟨ns, rfl, rfl, hn, -, q⟩ := h
  have hu := hr.units
  show sds _ _ (some (.rl (ns.map .int)) :: List.replicate 14 none) _ _
  refine sds_cons ?_
  walk_at "pd"
  refine ⟨ns, 0, rfl, by decide, by decide, hn, fun p q' μ1 hD => ?_⟩
  walk_at "pdS"
  refine sds_cons ?_
  walk_at "pdS"
  refine sds_cons ?_
  refine sd_for rfl ?_
  walk_at "pd"
  refine ⟨5, rfl, by decide, by decide, fun i δ' μ' => ∃ x3 x4 x5 x6 x7 x8 x9 x10 x11 x12 x13 x14, δ' = [some (.rl (ns.map .int)), some (.ref p), some (.lst (kindsL.map .str)), x3, x4, x5, x6, x7, x8, x9, x10, x11, x12, x13, x14] ∧ Deal p q' [] μ',
    ⟨_, _, _, _, _, _, _, _, _, _, _, _, rfl, hD⟩, fun _ _ _ _ _ => trivial, ?_, ?_⟩
  · rintro i d δ' μ' hd ⟨x3, x4, x5, x6, x7, x8, x9, x10, x11, x12, x13, x14, rfl, hD⟩
    walk_at "pd"
    refine ⟨p, q', [], 8, rfl, hD, by decide, by decide, fun rs μ2 hok hne hlen hD2 => ?_⟩
    have hok9 : ∀ r ∈ rs, okR 9 r := fun r hr => (hok r hr).mono (by decide)
    walk_at "pd"
    refine ⟨rfl, ?_⟩
    walk_at "pd"
    refine ⟨rs, rfl, hok, by omega, ?_⟩
    walk_at "pd"
    refine read_drawn hok hne (by omega) ?_
    walk_at "pdS"
    refine sds_cons ?_
    walk_at "pdS"
    refine lcd_all (Deal p q' []) (fun r => ∃ t, r = .str t) ?_
    walk_at "pdS"
    refine ⟨by decide, hD2, fun _ _ => trivial, fun d hd μ3 hD3 => ?_, fun acc μ3 hacc hlen3 hD3 => ?_⟩
    · obtain ⟨t, ht, rfl⟩ := List.mem_map.mp (show d ∈ kindsL.map D.str from hd)
      walk_at "pd"
      refine ⟨p, q', [], 5, rfl, hD3, by decide, by decide, fun r μ4 r0 r1 hD4 => ?_⟩
      walk_at "pd"
      refine ifd (fun h1 => ?_) (fun h1 => ?_)
      · walk_at "pd"
        exact ⟨⟨t, rfl⟩, hD4⟩
      · exact hD4
    obtain ⟨ao, rfl, -, -⟩ := strs_of (P := fun _ => True) fun r hr => (hacc r hr).imp fun t e => ⟨e, trivial⟩
    walk_at "pdS"
    refine sds_cons ?_
    walk_at "pdS"
    refine sds_cons ?_
    walk_at "pdS"
    refine sds_cut (fun δ' μ' => ∃ x7 x10 x11 x12 x13 x14, δ' = [some (.rl (ns.map .int)), some (.ref p), some (.lst (kindsL.map .str)), some d, some (.lst (rs.map tupR)), some (storeD K rs), some (.lst (ao.map .str)), x7, some (.tup [.bl false, .bl true]), some (.lst (allSo.map So.d)), x10, x11, x12, x13, x14] ∧ μ3 = μ') ?_ ?_
    · refine sd_for rfl ?_
      walk_at "pd"
      refine ⟨fun j δ' μ' => ∃ x7 x10 x11 x12 x13 x14, δ' = [some (.rl (ns.map .int)), some (.ref p), some (.lst (kindsL.map .str)), some d, some (.lst (rs.map tupR)), some (storeD K rs), some (.lst (ao.map .str)), x7, some (.tup [.bl false, .bl true]), some (.lst ((allSo.take (4 * j)).map So.d)), x10, x11, x12, x13, x14] ∧ μ3 = μ', ⟨_, _, _, _, _, _, rfl, rfl⟩, fun _ _ _ _ _ => trivial, ?_, ?_⟩
      · rintro j d1 δ' μ' hd1 ⟨x7, x10, x11, x12, x13, x14, rfl, rfl⟩
        obtain ⟨b, rfl, rfl⟩ : ∃ b : Bool, d1 = .bl b ∧ j = b.toNat := by
          rcases j with _ | _ | j
          · cases hd1; exact ⟨false, rfl, rfl⟩
          · cases hd1; exact ⟨true, rfl, rfl⟩
          · cases hd1
        walk_at "pd"
        refine sd_for rfl ?_
        walk_at "pd"
        refine ⟨fun j δ' μ' => ∃ x7 x11 x12 x13 x14, δ' = [some (.rl (ns.map .int)), some (.ref p), some (.lst (kindsL.map .str)), some d, some (.lst (rs.map tupR)), some (storeD K rs), some (.lst (ao.map .str)), x7, some (.tup [.bl false, .bl true]), some (.lst ((allSo.take (4 * b.toNat + 2 * j)).map So.d)), some (.bl b), x11, x12, x13, x14] ∧ μ3 = μ', ⟨_, _, _, _, _, rfl, rfl⟩, fun _ _ _ _ _ => trivial, ?_, ?_⟩
        · rintro j d2 δ' μ' hd2 ⟨x7, x11, x12, x13, x14, rfl, rfl⟩
          obtain ⟨c, rfl, rfl⟩ : ∃ c : Bool, d2 = .bl c ∧ j = c.toNat := by
            rcases j with _ | _ | j
            · cases hd2; exact ⟨false, rfl, rfl⟩
            · cases hd2; exact ⟨true, rfl, rfl⟩
            · cases hd2
          walk_at "pd"
          refine lcd_fm (fun _ => true) (fun d => .tup [.bl b, .bl c, d]) ?_
          walk_at "pd"
          refine ⟨by decide, trivial, fun d3 hd3 => ?_, ?_⟩
          · walk_at "pd"
            refine ⟨rfl, rfl, fun _ => ?_⟩
            walk_at "pd"
            exact ⟨rfl, rfl⟩
          show opd _ _ (.lst ((allSo.take (4 * b.toNat + 2 * c.toNat)).map So.d)) (.lst [(⟨b, c, false⟩ : So).d, (⟨b, c, true⟩ : So).d]) _ _ _
          refine opd_cat (small_le (by rw [List.length_map, List.length_take]; show min _ 8 + 2 ≤ _; omega)) ?_
          have e : (allSo.take (4 * b.toNat + 2 * c.toNat)).map So.d ++ [(⟨b, c, false⟩ : So).d, (⟨b, c, true⟩ : So).d] = (allSo.take (4 * b.toNat + 2 * (c.toNat + 1))).map So.d := by cases b <;> cases c <;> rfl
          rw [e]
          walk_at "pd"
          exact ⟨_, _, _, _, _, rfl, rfl⟩
        · rintro δ' μ' ⟨x7, x11, x12, x13, x14, rfl, rfl⟩
          walk_at "pd"
          exact ⟨_, _, _, _, _, _, rfl, rfl⟩
      · rintro δ' μ' ⟨x7, x10, x11, x12, x13, x14, rfl, rfl⟩
        walk_at "pd"
        exact ⟨_, _, _, _, _, _, rfl, rfl⟩
    rintro δ' μ' ⟨x7, x10, x11, x12, x13, x14, rfl, rfl⟩
    refine sds_cons ?_
    walk_at "pdS"
    refine ⟨rs, .tup [], [], rfl, .inl rfl, hok9, fun l hl => ?_⟩
    walk_at "pdS"
    refine sds_cons ?_
    walk_at "pd"
    refine ⟨rs, .tup [], [], rfl, .inl rfl, hok9, fun l2 hl2 => ?_⟩
    walk_at "pd"
    refine cld_reprP hr (pl_sorts l2) (by decide) (by decide) (.inl ⟨_, rfl⟩) ?_
    walk_at "pd"
    refine lcd_fm (inSo l) (fun d => d) ?_
    walk_at "pd"
    refine ⟨by decide, trivial, fun d hd => ?_, ?_⟩
    · obtain ⟨t, ht, rfl⟩ := List.mem_map.mp hd
      walk_at "pd"
      refine opd_inK (xs := l.map So.d) (k := t.k) hu (.lst _) t.nk t.depth (So.all l) ?_
      rw [So.any]
      walk_at "pd"
      refine ⟨(inSo_d l t).symm, rfl, fun _ => ?_⟩
      walk_at "pd"
      exact ⟨rfl, rfl⟩
    rw [filt_so]
    walk_at "pd"
    refine cld_reprP hr (pl_sorts l) (by decide) (by decide) (.inl ⟨_, rfl⟩) ?_
    rw [sortsD_congr (l := l2) (l2 := l) fun s => (hl2 s).trans (hl s).symm]
    walk_at "pd"
    refine iteFr (show (!decide (shD (sortsD l) = shD (sortsD l))) = false by simp) ?_
    walk_at "pdS"
    refine sds_cons ?_
    walk_at "pdS"
    refine ⟨rs, .lst (ao.map .str), ao, rfl, .inr rfl, hok9, fun l hl => ?_⟩
    walk_at "pdS"
    refine sds_cons ?_
    walk_at "pd"
    refine ⟨rs, .lst (ao.map .str), ao, rfl, .inr rfl, hok9, fun l2 hl2 => ?_⟩
    walk_at "pd"
    refine cld_reprP hr (pl_sorts l2) (by decide) (by decide) (.inl ⟨_, rfl⟩) ?_
    walk_at "pd"
    refine lcd_fm (inSo l) (fun d => d) ?_
    walk_at "pd"
    refine ⟨by decide, trivial, fun d hd => ?_, ?_⟩
    · obtain ⟨t, ht, rfl⟩ := List.mem_map.mp hd
      walk_at "pd"
      refine opd_inK (xs := l.map So.d) (k := t.k) hu (.lst _) t.nk t.depth (So.all l) ?_
      rw [So.any]
      walk_at "pd"
      refine ⟨(inSo_d l t).symm, rfl, fun _ => ?_⟩
      walk_at "pd"
      exact ⟨rfl, rfl⟩
    rw [filt_so]
    walk_at "pd"
    refine cld_reprP hr (pl_sorts l) (by decide) (by decide) (.inl ⟨_, rfl⟩) ?_
    rw [sortsD_congr (l := l2) (l2 := l) fun s => (hl2 s).trans (hl s).symm]
    walk_at "pd"
    refine iteFr (show (!decide (shD (sortsD l) = shD (sortsD l))) = false by simp) ?_
    walk_at "pdS"
    refine sds_cons ?_
    walk_at "pd"
    refine ⟨rs, .tup (kindsL.map .str), kindsL, rfl, .inl rfl, hok9, fun l3 hl3 => ?_⟩
    rw [sortsD_one fun s => ⟨fun h => rch_aside ((hl3 s).mp h), fun h => (hl3 s).mpr (h ▸ .fresh)⟩]
    walk_at "pd"
    refine opd_neV hu (.same _) (.same _) (by rfl) (by rfl) (by decide +kernel) (by decide +kernel) ?_
    refine ⟨_, rfl, iteFr (by decide +kernel) ?_⟩
    walk_at "pd"
    exact ⟨_, _, _, _, _, _, _, _, _, _, _, _, rfl, hD3⟩
  · rintro δ' μ' ⟨x3, x4, x5, x6, x7, x8, x9, x10, x11, x12, x13, x14, rfl, hD⟩
    walk_at "pd"
    refine ⟨_, some [], rfl, StAsk.good [] (.tup _) (by decide) (fun _ h => (List.not_mem_nil h).elim), (fun h => by cases h), fun rs h => ?_⟩
    cases h
    walk_at "pd"
    refine ⟨[], .tup [], [], rfl, .inl rfl, (fun _ h => (List.not_mem_nil h).elim), fun l hl => ?_⟩
    rw [sortsD_one fun s => ⟨fun h => rch_nil ((hl s).mp h), fun h => (hl s).mpr (h ▸ .fresh)⟩]
    walk_at "pd"
    refine opd_eqV hu (.same _) (.same _) (by rfl) (by rfl) (by decide +kernel) (by decide +kernel) ?_
    have e : eqD (.tup [.tup [.bl false, .bl false, .bl true]]) (.tup [.tup [.bl false, .bl false, .bl true]]) = true := by decide +kernel
    rw [e]
    exact q _
end
end
theorem facts {P : Program} {w : World} {K : PySem.W.Frag} {h : Heap} {mg : Str → Option Value} {f : Addr} (X : K.In h) (G : h.Ns mainGlobals mg) (hfa : mg ("law" : Str) = some (.ref f)) (c : sayP fa fn fx ts ex K = valP fn fx ts w) :
    ∃ fd : FuncData, (∀ (s : Shared) (v : Value), BindsTo s fd ⟨[v], []⟩ [("_law_script", v)]) ∧ ∀ base : Heap, K.In base → base.Ns mainGlobals mg → FnD false P w K mg base 10 f fd ["_law_script"] spLaw := by
  have T : T0 w K mg := txp_of X G c
  obtain ⟨fd, F⟩ := f_law T
  cases hfa.symm.trans (g_law T)
  have b := FunD.bindsA (ps := ["_law_script"]) F fun _ _ _ _ _ _ us hl => match us, hl with | [_], _ => rfl
  exact ⟨fd, fun s v => b s [v] rfl, fun base _ _ => ok_law T F⟩
end LW
open PySem PySem.W PySem.Calls PyProof.Rows
theorem PySem.Challenge.cw_joinsback_k25_sorts_of_records_holds : PySem.Challenge.rw_joinsback_k25_sorts_of_records.Holds := by
  exact LW.fin fun P w K h mg f X G hfa c => LW.facts X G hfa c
