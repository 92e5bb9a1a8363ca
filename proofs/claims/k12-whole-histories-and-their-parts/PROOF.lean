import PyProof.Rows.All
import Wide.All
import OpenK.AllK
import Wide.FinOn
import PyProof.EqAt
import PyProof.EqKinds
import PyProof.TupleCall
import HandS.Base
import HandS.Call
import HandS.List
import HandS.Ends
import HandS.Exc
import HandS.Words
import HandS.WordsExc
import HandS.CallSlots
import HandS.ExcCtx
import HandS.SuiteRaise
import HandS.Wide
import HandS.Text
import HandS.TupAny
import HandS.IsInst
import HandS.More
import HandS.Comp
import HandS.Iter
import HandS.Defaults
import HandS.Property
import HandS.MakeKw
import HandS.Star
import KE.KCallOwn
import HandS.Head0
import HandS.Head1
import HandS.Head2
import HandS.HeadEnd
import HandS.HeadHook1
import HandS.HeadHook2
import HandS.HeadHook3
import HandS.HeadHook4
import HandS.EndBits
import HandS.Style
import HandS.SlotsOwn
import HandS.NamedTup0
import HandS.ExcInit
import HandS.ExcInitHot
import HandS.ExcField
import HandS.ExcIs
import HandS.TryOnly
import KE.KExcInit
import HandS.ClsMeth
import HandS.HeadNt
import KE.GoesEnum
import HandS.RaiseMore
import HandS.TupMul
import HandS.SetFor
import HandS.Strs
import HandS.Conv
import HandS.RaiseFrom
import PyProof.ReprRoads
import PyProof.AutoSeq1
import OpenK.KMeth
import KE.KIsAll
import PyProof.IsiBase
import PyProof.FactsAll.set
import PyProof.RulesMatch
import KE.KDictList
import KE.KItemsList
import HandS.ExcValue
import PyProof.StrOps2
import HandS.SortInts
import PyProof.Rows.TmSorted
import PyProof.Rows.StrMeet
import HandS.DictComp
import HandS.Zip
import HandS.Flow
import KE.KOpsOwn
import PySem.Challenge.RW_joinsback_k12_whole_histories_and_their
set_option Elab.async false
set_option linter.all false
set_option maxRecDepth 100000
set_option maxHeartbeats 4000000
/-! PD1: values as plain data, the state (data, owned cells), judgements over data. -/
namespace PD
open PySem PySem.Spec PyProof.Rows L2
inductive D where
  | non | bl (b : Bool) | int (i : Int) | str (x : Str) | ty (n : String) | ref (a : Addr)
  | lst (xs : List D) | rl (xs : List D) | tup (xs : List D) | obj (C : Addr) (ns : List Str) (ds : List D) | dK (ks : List Key) (ds : List D)
  /-- a slice object -/
  | slc (lo hi st : Option Int)
  deriving Inhabited
/-- what a slice object is -/
def slcO (a : Addr) (lo hi st : Option Int) : Heap → Prop := fun h => ∃ o vl vu vs, h.get? a = some o ∧ o.cls = .type "slice" ∧ o.data = .fields #[vl, vu, vs] ∧ IsPart vl lo ∧ IsPart vu hi ∧ IsPart vs st
mutual
def Dp (K : PySem.W.Frag) (F : Hp) : D → V → Prop
  | .non, v => v = .non
  | .bl b, v => v = .bl b
  | .int i, v => v = .int i
  | .str x, v => v = .str x
  | .ty n, v => v = .ty n
  | .ref a, v => v = .ref a
  | .lst ds, v => ∃ a vs, v = .ref a ∧ F a = some (.lst vs) ∧ Dps K F ds vs
  | .rl ds, v => ∃ a vs, v = .ref a ∧ SqL K F a vs ∧ Dps K F ds vs
  | .tup ds, v => ∃ a vs, v = .ref a ∧ SqT K F a vs ∧ Dps K F ds vs
  | .obj C ns ds, v => ∃ a dx gs, v = .ref a ∧ F a = some (.ins C dx gs) ∧ gs.map (·.1) = ns ∧ Dps K F ds (gs.map (·.2))
  | .dK ks ds, v => ∃ a kvs, v = .ref a ∧ F a = some (.dK kvs) ∧ kvs.map (·.1) = ks ∧ Dps K F ds (kvs.map (·.2))
  | .slc lo hi st, v => ∃ a, v = .ref a ∧ F a = some (.ext (slcO a lo hi st))
def Dps (K : PySem.W.Frag) (F : Hp) : List D → List V → Prop
  | [], vs => vs = []
  | d :: ds, vs => ∃ v ws, vs = v :: ws ∧ Dp K F d v ∧ Dps K F ds ws
end
inductive Cell where
  | lst (ds : List D)
  | ins (C dx : Addr) (ns : List Str) (ds : List D)
  | dK (ks : List Key) (ds : List D)
  | dT (ks : List (List Key)) (ds : List D)
  | set (S : Int → Bool) (n : Nat)
  /-- a dict that is locked -/
  | dF (od : Obj) (gs : List (Key × V)) (ds : List D)
abbrev Mu := List (Addr × Cell)
abbrev Dl := List (Option D)
section
variable {K : PySem.W.Frag} {F F' H H' : Hp}
theorem Same.sqT {a : Addr} {xs : List V} (e : Same F F') (h : SqT K F a xs) : SqT K F' a xs := by
  rcases h with (h | ⟨o, h⟩) | h
  · exact .inl (.inl (e _ _ h))
  · exact .inl (.inr ⟨o, e _ _ h⟩)
  · exact .inr h
mutual
theorem Dp.mono (e : Same F F') : ∀ {d : D} {v : V}, Dp K F d v → Dp K F' d v
  | .non, _, h => h
  | .bl _, _, h => h
  | .int _, _, h => h
  | .str _, _, h => h
  | .ty _, _, h => h
  | .ref _, _, h => h
  | .lst ds, v, h => by
    rw [Dp] at h ⊢
    obtain ⟨a, vs, h1, h2, h3⟩ := h
    exact ⟨a, vs, h1, e _ _ h2, Dps.mono e h3⟩
  | .rl ds, v, h => by
    rw [Dp] at h ⊢
    obtain ⟨a, vs, h1, h2, h3⟩ := h
    exact ⟨a, vs, h1, e.seq h2, Dps.mono e h3⟩
  | .tup ds, v, h => by
    rw [Dp] at h ⊢
    obtain ⟨a, vs, h1, h2, h3⟩ := h
    exact ⟨a, vs, h1, Same.sqT e h2, Dps.mono e h3⟩
  | .obj C ns ds, v, h => by
    rw [Dp] at h ⊢
    obtain ⟨a, dx, gs, h1, h2, h3, h4⟩ := h
    exact ⟨a, dx, gs, h1, e _ _ h2, h3, Dps.mono e h4⟩
  | .dK ks ds, v, h => by
    rw [Dp] at h ⊢
    obtain ⟨a, gs, h1, h2, h3, h4⟩ := h
    exact ⟨a, gs, h1, e _ _ h2, h3, Dps.mono e h4⟩
  | .slc _ _ _, v, h => by
    rw [Dp] at h ⊢
    obtain ⟨a, h1, h2⟩ := h
    exact ⟨a, h1, e _ _ h2⟩
theorem Dps.mono (e : Same F F') : ∀ {ds : List D} {vs : List V}, Dps K F ds vs → Dps K F' ds vs
  | [], _, h => h
  | d :: ds, vs, h => by
    rw [Dps] at h ⊢
    obtain ⟨v, ws, h1, h2, h3⟩ := h
    exact ⟨v, ws, h1, Dp.mono e h2, Dps.mono e h3⟩
end
theorem Dps.nil : Dps K F [] [] := by rw [Dps]
theorem Dps.cons {d : D} {v : V} {ds : List D} {vs : List V} (h : Dp K F d v) (hs : Dps K F ds vs) : Dps K F (d :: ds) (v :: vs) := by
  rw [Dps]; exact ⟨v, vs, rfl, h, hs⟩
theorem Dps.uncons {d : D} {ds : List D} {vs : List V} (h : Dps K F (d :: ds) vs) : ∃ v ws, vs = v :: ws ∧ Dp K F d v ∧ Dps K F ds ws := by
  rw [Dps] at h; exact h
theorem Dps.unnil {vs : List V} (h : Dps K F [] vs) : vs = [] := by rw [Dps] at h; exact h
theorem Dps.length : ∀ {ds : List D} {vs : List V}, Dps K F ds vs → ds.length = vs.length
  | [], vs, h => by rw [h.unnil]; rfl
  | d :: ds, vs, h => by
    obtain ⟨v, ws, rfl, _, h3⟩ := h.uncons
    rw [List.length_cons, List.length_cons, Dps.length h3]
theorem Dps.get : ∀ {ds : List D} {vs : List V} {i : Nat} {d : D}, Dps K F ds vs → ds[i]? = some d → ∃ v, vs[i]? = some v ∧ Dp K F d v
  | [], vs, i, d, h, e => by simp at e
  | d' :: ds, vs, 0, d, h, e => by
    obtain ⟨v, ws, rfl, h2, h3⟩ := h.uncons
    rw [List.getElem?_cons_zero] at e
    cases e
    exact ⟨v, rfl, h2⟩
  | d' :: ds, vs, i + 1, d, h, e => by
    obtain ⟨v, ws, rfl, h2, h3⟩ := h.uncons
    rw [List.getElem?_cons_succ] at e
    obtain ⟨u, h4, h5⟩ := Dps.get h3 e
    exact ⟨u, by rw [List.getElem?_cons_succ]; exact h4, h5⟩
theorem Dps.append : ∀ {ds es : List D} {vs ws : List V}, Dps K F ds vs → Dps K F es ws → Dps K F (ds ++ es) (vs ++ ws)
  | [], _, _, _, h, h' => by rw [h.unnil]; exact h'
  | d :: ds, es, vs, ws, h, h' => by
    obtain ⟨v, us, rfl, h2, h3⟩ := h.uncons
    exact Dps.cons h2 (Dps.append h3 h')
theorem Dps.drop : ∀ {ds : List D} {vs : List V} (n : Nat), Dps K F ds vs → Dps K F (ds.drop n) (vs.drop n)
  | ds, vs, 0, h => h
  | [], vs, n + 1, h => by rw [h.unnil]; exact Dps.nil
  | d :: ds, vs, n + 1, h => by
    obtain ⟨v, us, rfl, h2, h3⟩ := h.uncons
    exact Dps.drop n h3
theorem Dps.take : ∀ {ds : List D} {vs : List V} (n : Nat), Dps K F ds vs → Dps K F (ds.take n) (vs.take n)
  | ds, vs, 0, h => by rw [List.take_zero, List.take_zero]; exact Dps.nil
  | [], vs, n + 1, h => by rw [h.unnil]; exact Dps.nil
  | d :: ds, vs, n + 1, h => by
    obtain ⟨v, us, rfl, h2, h3⟩ := h.uncons
    exact Dps.cons h2 (Dps.take n h3)
theorem Dps.set : ∀ {ds : List D} {vs : List V} (i : Nat) {d : D} {v : V}, Dps K F ds vs → Dp K F d v → Dps K F (ds.set i d) (vs.set i v)
  | [], vs, i, d, v, h, _ => by rw [h.unnil]; exact Dps.nil
  | d' :: ds, vs, 0, d, v, h, k => by
    obtain ⟨v', us, rfl, h2, h3⟩ := h.uncons
    exact Dps.cons k h3
  | d' :: ds, vs, i + 1, d, v, h, k => by
    obtain ⟨v', us, rfl, h2, h3⟩ := h.uncons
    exact Dps.cons h2 (Dps.set i h3 k)
theorem Dps.reverse : ∀ {ds : List D} {vs : List V}, Dps K F ds vs → Dps K F ds.reverse vs.reverse
  | [], vs, h => by rw [h.unnil]; exact Dps.nil
  | d :: ds, vs, h => by
    obtain ⟨v, us, rfl, h2, h3⟩ := h.uncons
    rw [List.reverse_cons, List.reverse_cons]
    exact (Dps.reverse h3).append (Dps.cons h2 Dps.nil)
theorem Dps.dropLast {ds : List D} {vs : List V} (h : Dps K F ds vs) : Dps K F ds.dropLast vs.dropLast := by
  rw [List.dropLast_eq_take, List.dropLast_eq_take, h.length]
  exact h.take _
theorem Dps.ints : ∀ {ns : List Int} {vs : List V}, Dps K F (ns.map D.int) vs → vs = ns.map V.int
  | [], vs, h => h.unnil
  | n :: ns, vs, h => by
    obtain ⟨v, us, rfl, h2, h3⟩ := Dps.uncons h
    rw [Dp] at h2
    rw [h2, Dps.ints h3, List.map_cons]
theorem Dps.of_ints : ∀ {ns : List Int}, Dps K F (ns.map D.int) (ns.map V.int)
  | [] => Dps.nil
  | n :: ns => Dps.cons (by rw [Dp]) Dps.of_ints
theorem Dps.strs : ∀ {ns : List Str} {vs : List V}, Dps K F (ns.map D.str) vs → vs = ns.map V.str
  | [], vs, h => h.unnil
  | n :: ns, vs, h => by
    obtain ⟨v, us, rfl, h2, h3⟩ := Dps.uncons h
    rw [Dp] at h2
    rw [h2, Dps.strs h3, List.map_cons]
theorem Dps.of_strs : ∀ {ns : List Str}, Dps K F (ns.map D.str) (ns.map V.str)
  | [] => Dps.nil
  | n :: ns => Dps.cons (by rw [Dp]) Dps.of_strs
theorem Dps.bls : ∀ {ns : List Bool} {vs : List V}, Dps K F (ns.map D.bl) vs → vs = ns.map V.bl
  | [], vs, h => h.unnil
  | n :: ns, vs, h => by
    obtain ⟨v, us, rfl, h2, h3⟩ := Dps.uncons h
    rw [Dp] at h2
    rw [h2, Dps.bls h3, List.map_cons]
end
/-! ### cells, the state -/
def CellOk (K : PySem.W.Frag) (F H : Hp) (p : Addr) : Cell → Prop
  | .lst ds => ∃ vs, H p = some (.lst vs) ∧ Dps K F ds vs
  | .ins C dx ns ds => ∃ gs, H p = some (.ins C dx gs) ∧ gs.map (·.1) = ns ∧ Dps K F ds (gs.map (·.2))
  | .dK ks ds => ∃ kvs, H p = some (.dK kvs) ∧ kvs.map (·.1) = ks ∧ Dps K F ds (kvs.map (·.2))
  | .dT ks ds => ∃ kvs, H p = some (.dT kvs) ∧ kvs.map (·.1) = ks ∧ Dps K F ds (kvs.map (·.2))
  | .set S n => H p = some (.set S n)
  | .dF od gs ds => H p = some (.frz od (.dK gs)) ∧ Dps K F ds (gs.map (·.2))
def dom (μ : Mu) : List Addr := μ.map (·.1)
structure Sx (K : PySem.W.Frag) (F : Hp) (μ : Mu) (H : Hp) : Prop where
  sub : Same F H
  off : ∀ c ∈ μ, F c.1 = none
  nd : (dom μ).Nodup
  cells : ∀ c ∈ μ, CellOk K F H c.1 c.2
structure Step (F : Hp) (μ : Mu) (H : Hp) (F' : Hp) (μ' : Mu) (H' : Hp) : Prop where
  ext : Same F F'
  keep : ∀ a o, H a = some o → a ∉ dom μ → H' a = some o
  new : ∀ a o, F' a = some o → F a = none → H a = none ∨ a ∈ dom μ
  cell : ∀ a ∈ dom μ', a ∈ dom μ ∨ H a = none
theorem Step.refl (F : Hp) (μ : Mu) (H : Hp) : Step F μ H F μ H :=
  ⟨Same.refl F, fun _ _ h _ => h, fun a o h h' => by rw [h] at h'; (cases h'), fun a h => .inl h⟩
theorem Step.back {F F' H H' : Hp} {μ μ' : Mu} (s : Step F μ H F' μ' H') {a : Addr} (h : H' a = none) : H a = none ∨ a ∈ dom μ := by
  by_cases q : a ∈ dom μ
  · exact .inr q
  · cases e : H a with
    | none => exact .inl rfl
    | some o => rw [s.keep a o e q] at h; cases h
theorem Step.trans {F F1 F2 H H1 H2 : Hp} {μ μ1 μ2 : Mu} (s : Step F μ H F1 μ1 H1) (t : Step F1 μ1 H1 F2 μ2 H2) : Step F μ H F2 μ2 H2 where
  ext := s.ext.trans t.ext
  keep := fun a o h hn => t.keep a o (s.keep a o h hn) fun hm => by
    rcases s.cell a hm with q | q
    · exact hn q
    · rw [h] at q; cases q
  new := fun a o h h0 => by
    cases e : F1 a with
    | some u => exact s.new a u e h0
    | none =>
      rcases t.new a o h e with q | q
      · exact s.back q
      · rcases s.cell a q with z | z
        · exact .inr z
        · exact .inl z
  cell := fun a h => by
    rcases t.cell a h with q | q
    · exact s.cell a q
    · exact (s.back q).symm
def Fr (K : PySem.W.Frag) (F : Hp) (σ : L2.St) (δ : Dl) : Prop := σ.length = δ.length ∧ ∀ (i : Nat) (d : D), δ[i]? = some (some d) → ∃ v, σ[i]? = some (some v) ∧ Dp K F d v
theorem Fr.mono {K : PySem.W.Frag} {F F' : Hp} {σ : L2.St} {δ : Dl} (e : Same F F') (h : Fr K F σ δ) : Fr K F' σ δ :=
  ⟨h.1, fun i d q => by obtain ⟨v, h1, h2⟩ := h.2 i d q; exact ⟨v, h1, h2.mono e⟩⟩
theorem Fr.set {K : PySem.W.Frag} {F : Hp} {σ : L2.St} {δ : Dl} (h : Fr K F σ δ) (i : Nat) {v : V} {d : D} (r : Dp K F d v) : Fr K F (σ.set i (some v)) (δ.set i (some d)) := by
  refine ⟨by rw [List.length_set, List.length_set, h.1], fun j e q => ?_⟩
  by_cases hj : i = j
  · subst hj
    by_cases hl : i < δ.length
    · rw [List.getElem?_set_self hl] at q
      cases q
      exact ⟨v, List.getElem?_set_self (by rw [h.1]; exact hl), r⟩
    · rw [List.getElem?_eq_none (by rw [List.length_set]; omega)] at q
      cases q
  · rw [List.getElem?_set_ne hj] at q ⊢
    exact h.2 j e q
/-- a slot forgotten on both sides -/
theorem Fr.unset {K : PySem.W.Frag} {F : Hp} {σ : L2.St} {δ : Dl} (h : Fr K F σ δ) (i : Nat) (o : Option V) : Fr K F (σ.set i o) (δ.set i none) := by
  refine ⟨by rw [List.length_set, List.length_set, h.1], fun j e q => ?_⟩
  by_cases hj : i = j
  · subst hj
    by_cases hl : i < δ.length
    · rw [List.getElem?_set_self hl] at q
      cases q
    · rw [List.getElem?_eq_none (by rw [List.length_set]; omega)] at q
      cases q
  · rw [List.getElem?_set_ne hj] at q ⊢
    exact h.2 j e q
/-- what holds of an exception: its class, its own dict's fields -/
def XdOk (K : PySem.W.Frag) (F : Hp) (d : Option Addr) (ns : List Str) (ds : List D) : Prop :=
  (d = none ∧ ns = [] ∧ ds = []) ∨ ∃ a gs, d = some a ∧ F a = some (.xd gs) ∧ gs.map (·.1) = ns ∧ Dps K F ds (gs.map (·.2))
theorem XdOk.mono {K : PySem.W.Frag} {F F' : Hp} {d : Option Addr} {ns : List Str} {ds : List D} (e : Same F F') (h : XdOk K F d ns ds) : XdOk K F' d ns ds := by
  rcases h with h | ⟨a, gs, h1, h2, h3, h4⟩
  · exact .inl h
  · exact .inr ⟨a, gs, h1, e _ _ h2, h3, h4.mono e⟩
abbrev XD := Value → List Str → List D → Dl → Mu → Prop
def WofD (K : PySem.W.Frag) (F0 : Hp) (μ0 : Mu) (H0 : Hp) (W : XD) : WX := fun cls d σ H => ∃ F μ δ ns ds, Step F0 μ0 H0 F μ H ∧ Sx K F μ H ∧ Fr K F σ δ ∧ XdOk K F d ns ds ∧ W cls ns ds δ μ
/-- who takes what flies: all (false), or what has None for its context (true) -/
def TkB : Bool → Cx → WX → Prop
  | true, X, W => L2N.Takes X W
  | false, X, W => L2.Takes X W
theorem TkB.imp {b : Bool} {X : Cx} {W W' : WX} (t : TkB b X W) (h : ∀ c d σ H, W' c d σ H → W c d σ H) : TkB b X W' := by
  cases b with
  | true => exact L2N.Takes.imp t h
  | false => exact L2.Takes.imp t h
theorem sky_imp {B h : Heap} {l : List Env} {a L : Addr} {Z Z' : Obj → Prop} (z : ∀ o, Z o → Z' o) (x : Sky B l a Z L h) : Sky B l a Z' L h := by
  rcases x with ⟨y1, y2, y3, oe, vs, y4, y5, y6, y7⟩ | x | ⟨y1, y2, y3, y4⟩
  · exact .inl ⟨y1, y2, y3, oe, vs, y4, z _ y5, y6, y7⟩
  · exact .inr (.inl (L2H.flyingZ_imp z x))
  · exact .inr (.inr ⟨y1, y2, y3, L2H.tracedZ_imp z y4⟩)
theorem takesN_of {X : Cx} {W : WX} (t : L2.Takes X W) : L2N.Takes X W := fun u s' ⟨a, B, sI, pins, σ, H, cls, d, e, I, nb, up, sky, r⟩ =>
  t u s' ⟨a, B, sI, pins, σ, H, cls, d, e, I, nb, up, sky_imp (fun _ z => z.zc) sky, r⟩
theorem TkB.all {b : Bool} {X : Cx} {W : WX} (t : TkB b X W) (h : b = false) : L2.Takes X W := by
  subst h; exact t
theorem TkB.n {b : Bool} {X : Cx} {W : WX} (t : TkB b X W) : L2N.Takes X W := by
  cases b with
  | true => exact t
  | false => exact takesN_of t
structure Ct where
  X : Cx
  F0 : Hp
  μ0 : Mu
  H0 : Hp
  W : XD
  nn : Bool
  tk : TkB nn X (WofD X.K F0 μ0 H0 W)
  po : PassesOwn (model X.prog X.w) X.A X.env X.xe
structure At (Γ : Ct) (F : Hp) (δ : Dl) (μ : Mu) (σ : L2.St) (H : Hp) : Prop where
  st : Step Γ.F0 Γ.μ0 Γ.H0 F μ H
  sx : Sx Γ.X.K F μ H
  fr : Fr Γ.X.K F σ δ
section
variable {Γ : Ct} {F F' H H' : Hp} {δ : Dl} {μ : Mu} {σ : L2.St}
/-- the heap grows by things that nobody knows -/
theorem At.ext (a : At Γ F δ μ σ H) (e : Same H H') : At Γ F δ μ σ H' where
  st := ⟨a.st.ext, fun b o h hn => e _ _ (a.st.keep b o h hn), a.st.new, a.st.cell⟩
  sx := ⟨a.sx.sub.trans e, a.sx.off, a.sx.nd, fun c hc => by
    have h := a.sx.cells c hc
    obtain ⟨p, c⟩ := c
    cases c with
    | lst ds => obtain ⟨vs, h1, h2⟩ := h; exact ⟨vs, e _ _ h1, h2⟩
    | ins C dx ns ds => obtain ⟨vs, h1, h2⟩ := h; exact ⟨vs, e _ _ h1, h2⟩
    | dK ns ds => obtain ⟨vs, h1, h2⟩ := h; exact ⟨vs, e _ _ h1, h2⟩
    | dT ns ds => obtain ⟨vs, h1, h2⟩ := h; exact ⟨vs, e _ _ h1, h2⟩
    | dF od gs ds => exact ⟨e _ _ h.1, h.2⟩
    | set S n => exact e _ _ h⟩
  fr := a.fr
theorem CellOk.mono {K : PySem.W.Frag} {p : Addr} {c : Cell} (e : Same F F') (e' : H' p = H p) (h : CellOk K F H p c) : CellOk K F' H' p c := by
  cases c with
  | lst ds => obtain ⟨vs, h1, h2⟩ := h; exact ⟨vs, e'.trans h1, h2.mono e⟩
  | ins C dx ns ds => obtain ⟨vs, h1, h2, h3⟩ := h; exact ⟨vs, e'.trans h1, h2, h3.mono e⟩
  | dK ns ds => obtain ⟨vs, h1, h2, h3⟩ := h; exact ⟨vs, e'.trans h1, h2, h3.mono e⟩
  | dT ns ds => obtain ⟨vs, h1, h2, h3⟩ := h; exact ⟨vs, e'.trans h1, h2, h3.mono e⟩
  | dF od gs ds => exact ⟨e'.trans h.1, h.2.mono e⟩
  | set S n => exact e'.trans h
theorem CellOk.there {K : PySem.W.Frag} {p : Addr} {c : Cell} (h : CellOk K F H p c) : ∃ o, H p = some o := by
  cases c with
  | lst ds => obtain ⟨vs, h1, h2⟩ := h; exact ⟨_, h1⟩
  | ins C dx ns ds => obtain ⟨vs, h1, h2, h3⟩ := h; exact ⟨_, h1⟩
  | dK ns ds => obtain ⟨vs, h1, h2, h3⟩ := h; exact ⟨_, h1⟩
  | dT ns ds => obtain ⟨vs, h1, h2, h3⟩ := h; exact ⟨_, h1⟩
  | dF od gs ds => exact ⟨_, h.1⟩
  | set S n => exact ⟨_, h⟩
theorem same_upd {p : Addr} {o : HO} (h : H p = none) : Same H (upd H p o) := fun a u e => by
  rw [upd_ne (ne_of_none e h)]; exact e
theorem same_upd2 {p : Addr} {o : HO} (s : Same F H) : Same (upd F p o) (upd H p o) := fun a u e => by
  by_cases q : a = p
  · subst q; rw [upd_same] at e ⊢; exact e
  · rw [upd_ne q] at e ⊢; exact s _ _ e
/-- a new thing, known from now on -/
theorem At.pers (a : At Γ F δ μ σ H) {p : Addr} (o : HO) (hp : H p = none) : At Γ (upd F p o) δ μ σ (upd H p o) := by
  have hF : F p = none := a.sx.sub.free hp
  have sF : Same F (upd F p o) := same_upd hF
  have hμ : p ∉ dom μ := fun hm => by
    obtain ⟨c, hc, e⟩ := List.mem_map.mp hm
    obtain ⟨u, hu⟩ := (a.sx.cells c hc).there
    rw [e, hp] at hu
    cases hu
  refine ⟨⟨a.st.ext.trans sF, fun b u h hn => ?_, fun b u h h0 => ?_, a.st.cell⟩, ⟨same_upd2 a.sx.sub, fun c hc => ?_, a.sx.nd, fun c hc => ?_⟩, a.fr.mono sF⟩
  · exact same_upd hp _ _ (a.st.keep b u h hn)
  · by_cases q : b = p
    · subst q; exact a.st.back hp
    · rw [upd_ne q] at h; exact a.st.new b u h h0
  · rw [upd_ne (fun e => hμ (by rw [← e]; exact List.mem_map.mpr ⟨c, hc, rfl⟩))]; exact a.sx.off c hc
  · refine (a.sx.cells c hc).mono sF (upd_ne fun e => hμ (by rw [← e]; exact List.mem_map.mpr ⟨c, hc, rfl⟩))
/-- a new thing, owned -/
theorem At.own (a : At Γ F δ μ σ H) {p : Addr} {o : HO} {c : Cell} (hp : H p = none) (hc : CellOk Γ.X.K F (upd H p o) p c) : At Γ F δ ((p, c) :: μ) σ (upd H p o) := by
  have hF : F p = none := a.sx.sub.free hp
  have hμ : p ∉ dom μ := fun hm => by
    obtain ⟨c, hc, e⟩ := List.mem_map.mp hm
    obtain ⟨u, hu⟩ := (a.sx.cells c hc).there
    rw [e, hp] at hu
    cases hu
  have b := a.ext (same_upd (o := o) hp)
  refine ⟨⟨b.st.ext, b.st.keep, b.st.new, fun x hx => ?_⟩, ⟨b.sx.sub, fun x hx => ?_, ?_, fun x hx => ?_⟩, b.fr⟩
  · rcases List.mem_cons.mp hx with e | e
    · rw [e]; exact (a.st.back hp).symm
    · exact b.st.cell x e
  · rcases List.mem_cons.mp hx with e | e
    · rw [e]; exact hF
    · exact b.sx.off x e
  · exact List.nodup_cons.mpr ⟨hμ, a.sx.nd⟩
  · rcases List.mem_cons.mp hx with e | e
    · rw [e]; exact hc
    · exact b.sx.cells x e
/-- an owned cell is let go: the thing is known from now on -/
theorem At.freeze {p : Addr} {c : Cell} {μ1 μ2 : Mu} {o : HO} (a : At Γ F δ (μ1 ++ (p, c) :: μ2) σ H) (hp : H p = some o) : At Γ (upd F p o) δ (μ1 ++ μ2) σ H := by
  have hF : F p = none := a.sx.off (p, c) (List.mem_append_right _ List.mem_cons_self)
  have sF : Same F (upd F p o) := same_upd hF
  have nd := a.sx.nd
  have e : dom (μ1 ++ (p, c) :: μ2) = dom μ1 ++ p :: dom μ2 := by unfold dom; rw [List.map_append, List.map_cons]
  rw [e] at nd
  have e2 : dom (μ1 ++ μ2) = dom μ1 ++ dom μ2 := by unfold dom; rw [List.map_append]
  have nd2 := List.nodup_append.mp nd
  have hnot : p ∉ dom (μ1 ++ μ2) := by
    rw [e2]; intro h
    rcases List.mem_append.mp h with q | q
    · exact (nd2.2.2 p q p List.mem_cons_self) rfl
    · exact (List.nodup_cons.mp nd2.2.1).1 q
  have sub : ∀ x ∈ μ1 ++ μ2, x ∈ μ1 ++ (p, c) :: μ2 := fun x hx => by
    rcases List.mem_append.mp hx with q | q
    · exact List.mem_append_left _ q
    · exact List.mem_append_right _ (List.mem_cons_of_mem _ q)
  refine ⟨⟨a.st.ext.trans sF, a.st.keep, fun b u h h0 => ?_, fun x hx => ?_⟩, ⟨fun b u h => ?_, fun x hx => ?_, ?_, fun x hx => ?_⟩, a.fr.mono sF⟩
  · by_cases q : b = p
    · rw [q]
      exact (a.st.cell p (by rw [e]; exact List.mem_append_right _ List.mem_cons_self)).symm
    · rw [upd_ne q] at h; exact a.st.new b u h h0
  · obtain ⟨y, hy, ey⟩ := List.mem_map.mp hx
    exact a.st.cell x (List.mem_map.mpr ⟨y, sub y hy, ey⟩)
  · by_cases q : b = p
    · rw [q, upd_same] at h; rw [q, ← h]; exact hp
    · rw [upd_ne q] at h; exact a.sx.sub _ _ h
  · rw [upd_ne (fun e3 => hnot (by rw [← e3]; exact List.mem_map.mpr ⟨x, hx, rfl⟩))]; exact a.sx.off x (sub x hx)
  · rw [e2]
    exact List.nodup_append.mpr ⟨nd2.1, (List.nodup_cons.mp nd2.2.1).2, fun a' ha' b' hb' => nd2.2.2 a' ha' b' (List.mem_cons_of_mem _ hb')⟩
  · exact (a.sx.cells x (sub x hx)).mono sF rfl
/-- an owned cell changes -/
theorem At.put {p : Addr} {c c' : Cell} {μ1 μ2 : Mu} {o : HO} (a : At Γ F δ (μ1 ++ (p, c) :: μ2) σ H) (hc : CellOk Γ.X.K F (upd H p o) p c') : At Γ F δ (μ1 ++ (p, c') :: μ2) σ (upd H p o) := by
  have hF : F p = none := a.sx.off (p, c) (List.mem_append_right _ List.mem_cons_self)
  have nd := a.sx.nd
  have e : ∀ c, dom (μ1 ++ (p, c) :: μ2) = dom μ1 ++ p :: dom μ2 := fun c => by unfold dom; rw [List.map_append, List.map_cons]
  have mem : ∀ x ∈ μ1 ++ (p, c') :: μ2, x = (p, c') ∨ (x ∈ μ1 ++ (p, c) :: μ2 ∧ x.1 ≠ p) := fun x hx => by
    rw [e] at nd
    have nd2 := List.nodup_append.mp nd
    rcases List.mem_append.mp hx with q | q
    · refine .inr ⟨List.mem_append_left _ q, fun z => ?_⟩
      exact (nd2.2.2 p (by rw [← z]; exact List.mem_map.mpr ⟨x, q, rfl⟩) p List.mem_cons_self) rfl
    · rcases List.mem_cons.mp q with z | z
      · exact .inl z
      · refine .inr ⟨List.mem_append_right _ (List.mem_cons_of_mem _ z), fun y => ?_⟩
        exact (List.nodup_cons.mp nd2.2.1).1 (by rw [← y]; exact List.mem_map.mpr ⟨x, z, rfl⟩)
  have hd : dom (μ1 ++ (p, c') :: μ2) = dom (μ1 ++ (p, c) :: μ2) := by rw [e, e]
  refine ⟨⟨a.st.ext, fun b u h hn => ?_, a.st.new, fun x hx => a.st.cell x (by rw [← hd]; exact hx)⟩, ⟨fun b u h => ?_, fun x hx => ?_, by rw [hd]; exact nd, fun x hx => ?_⟩, a.fr⟩
  · have hb : b ≠ p := fun z => by
      rcases a.st.cell p (by rw [e]; exact List.mem_append_right _ List.mem_cons_self) with q | q
      · exact hn (by rw [z]; exact q)
      · rw [z] at h; rw [h] at q; cases q
    rw [upd_ne hb]
    exact a.st.keep b u h hn
  · rw [upd_ne (fun z => by rw [z, hF] at h; cases h)]; exact a.sx.sub _ _ h
  · rcases mem x hx with z | ⟨z, _⟩
    · rw [z]; exact hF
    · exact a.sx.off x z
  · rcases mem x hx with z | ⟨z, y⟩
    · rw [z]; exact hc
    · exact (a.sx.cells x z).mono (Same.refl F) (upd_ne y)
/-- from one start to an earlier one -/
theorem At.fr_set (a : At Γ F δ μ σ H) (i : Nat) {v : V} {d : D} (r : Dp Γ.X.K F d v) : At Γ F (δ.set i (some d)) μ (σ.set i (some v)) H := ⟨a.st, a.sx, a.fr.set i r⟩
theorem At.var (a : At Γ F δ μ σ H) {i : Nat} {d : D} (h : δ[i]? = some (some d)) : ∃ v, σ[i]? = some (some v) ∧ Dp Γ.X.K F d v := a.fr.2 i d h
end
end PD
/-! PD2: the judgements over data, the rules of expressions, statements, loops. -/
namespace PD
open PySem PySem.Spec PyProof.Rows L2
/-! ### the semantic readings -/
def we (X : Cx) (e : Expr) : TE := fun σ H Q => ∀ (pins : List (Addr × Obj)) (s : Shared), Inv X pins σ H s → wpAny (model X.prog X.w) X.A (eval e X.env) (EP X pins σ Q) X.xe s
def wt (X : Cx) (e : Expr) : TT := fun σ H Q => ∀ (pins : List (Addr × Obj)) (s : Shared), Inv X pins σ H s → wpAny (model X.prog X.w) X.A (isTrue e X.env (eval e X.env)) (TP X pins σ Q) X.xe s
def ww (X : Cx) (e : Expr) : TT := fun σ H Q => ∀ (whole : Sem Value) (pins : List (Addr × Obj)) (s : Shared), Inv X pins σ H s → wpAny (model X.prog X.w) X.A (isTrue e X.env whole) (TP X pins σ Q) X.xe s
def wa (X : Cx) (es : List Expr) : TA := fun σ H Q => ∀ (pos : Pos) (pins : List (Addr × Obj)) (s : Shared), Inv X pins σ H s → wpAny (model X.prog X.w) X.A (spliced (backTo pos (starEach es X.env))) (AP X pins σ Q) X.xe s
def ws (X : Cx) (st : Stmt) : TS := fun D σ H => ∀ (pins : List (Addr × Obj)) (s : Shared), Inv X pins σ H s → wpAny (model X.prog X.w) X.A (exec st X.env) (SP X pins D) X.xe s
def wss (X : Cx) (st : List Stmt) : TS := fun D σ H => ∀ (pins : List (Addr × Obj)) (s : Shared), Inv X pins σ H s → wpAny (model X.prog X.w) X.A (execs st X.env) (SP X pins D) X.xe s
def wg (X : Cx) (tg : Expr) : TG := fun v σ H Q => ∀ (pins : List (Addr × Obj)) (s : Shared) (u : Value), Inv X pins σ H s → RelV v u →
    wpAny (model X.prog X.w) X.A (assign tg X.env u) (fun _ s' => ∃ σ' H', Inv X pins σ' H' s' ∧ Q σ' H') X.xe s
def wgs (X : Cx) (ts : List Expr) : TGs := fun vs σ H Q => ∀ (pins : List (Addr × Obj)) (s : Shared) (us : List Value), Inv X pins σ H s → Vals vs us →
    wpAny (model X.prog X.w) X.A (assignInOrder ((assignEach ts X.env).map (·.2)) us) (fun _ s' => ∃ σ' H', Inv X pins σ' H' s' ∧ Q σ' H') X.xe s
def wi (X : Cx) (tg iter : Expr) : TI := fun σ H R => ∀ (pins : List (Addr × Obj)) (s : Shared), Inv X pins σ H s →
    wpAny (model X.prog X.w) X.A (eval iter X.env) (fun v s1 => wpAny (model X.prog X.w) X.A (pyIter v) (PIE X pins σ tg R) X.xe s1) X.xe s
section
variable {X : Cx} {e : Expr} {es : List Expr} {st : Stmt} {sts : List Stmt} {tg iter : Expr}
theorem pe_we : PE X e (we X e) := ⟨fun pins s _ _ _ I h => h pins s I⟩
theorem pt_wt : PT X e (wt X e) := ⟨fun pins s _ _ _ I h => h pins s I⟩
theorem pw_ww : PW X e (ww X e) := ⟨fun wh pins s _ _ _ I h => h wh pins s I⟩
theorem pa_wa : PA X es (wa X es) := ⟨fun pos pins s _ _ _ I h => h pos pins s I⟩
theorem ps_ws : PS X st (ws X st) := ⟨fun pins s _ _ _ I h => h pins s I⟩
theorem pss_wss : PSs X sts (wss X sts) := ⟨fun pins s _ _ _ I h => h pins s I⟩
theorem pg_wg : PG X tg (wg X tg) := ⟨fun pins s _ _ _ u _ I r h => h pins s u I r⟩
theorem pgs_wgs : PGs X es (wgs X es) := ⟨fun pins s _ _ _ us _ I r h => h pins s us I r⟩
theorem pi_wi : PI X tg iter (wi X tg iter) := ⟨fun pins s _ _ _ I h => h pins s I⟩
theorem we_of {t : TE} {σ : L2.St} {H : Hp} {Q : VK} (h : PE X e t) (k : t σ H Q) : we X e σ H Q := fun pins s I => h.run pins s σ H Q I k
theorem wt_of {t : TT} {σ : L2.St} {H : Hp} {Q : Bool → Hp → Prop} (h : PT X e t) (k : t σ H Q) : wt X e σ H Q := fun pins s I => h.run pins s σ H Q I k
theorem ww_of {t : TT} {σ : L2.St} {H : Hp} {Q : Bool → Hp → Prop} (h : PW X e t) (k : t σ H Q) : ww X e σ H Q := fun wh pins s I => h.run wh pins s σ H Q I k
theorem wa_of {t : TA} {σ : L2.St} {H : Hp} {Q : List V → Hp → Prop} (h : PA X es t) (k : t σ H Q) : wa X es σ H Q := fun pos pins s I => h.run pos pins s σ H Q I k
theorem ws_of {t : TS} {σ : L2.St} {H : Hp} {D : Ends} (h : PS X st t) (k : t D σ H) : ws X st D σ H := fun pins s I => h.run pins s σ H D I k
theorem wss_of {t : TS} {σ : L2.St} {H : Hp} {D : Ends} (h : PSs X sts t) (k : t D σ H) : wss X sts D σ H := fun pins s I => h.run pins s σ H D I k
theorem wg_of {t : TG} {v : V} {σ : L2.St} {H : Hp} {Q : L2.St → Hp → Prop} (h : PG X tg t) (k : t v σ H Q) : wg X tg v σ H Q := fun pins s u I r => h.run pins s σ H v u Q I r k
theorem wgs_of {t : TGs} {vs : List V} {σ : L2.St} {H : Hp} {Q : L2.St → Hp → Prop} (h : PGs X es t) (k : t vs σ H Q) : wgs X es vs σ H Q := fun pins s us I r => h.run pins s σ H vs us Q I r k
theorem wi_of {t : TI} {σ : L2.St} {H : Hp} {R : It → Hp → Prop} (h : PI X tg iter t) (k : t σ H R) : wi X tg iter σ H R := fun pins s I => h.run pins s σ H R I k
theorem we_mono {σ : L2.St} {H : Hp} {Q Q' : VK} (h : we X e σ H Q) (k : ∀ v H', Q v H' → Q' v H') : we X e σ H Q' := fun pins s I =>
  thn (h pins s I) fun u s1 ⟨v, H1, I1, r, q⟩ => ⟨v, H1, I1, r, k v H1 q⟩
theorem wt_mono {σ : L2.St} {H : Hp} {Q Q' : Bool → Hp → Prop} (h : wt X e σ H Q) (k : ∀ v H', Q v H' → Q' v H') : wt X e σ H Q' := fun pins s I =>
  thn (h pins s I) fun u s1 ⟨H1, I1, q⟩ => ⟨H1, I1, k u H1 q⟩
theorem ww_mono {σ : L2.St} {H : Hp} {Q Q' : Bool → Hp → Prop} (h : ww X e σ H Q) (k : ∀ v H', Q v H' → Q' v H') : ww X e σ H Q' := fun wh pins s I =>
  thn (h wh pins s I) fun u s1 ⟨H1, I1, q⟩ => ⟨H1, I1, k u H1 q⟩
theorem wa_mono {σ : L2.St} {H : Hp} {Q Q' : List V → Hp → Prop} (h : wa X es σ H Q) (k : ∀ v H', Q v H' → Q' v H') : wa X es σ H Q' := fun pos pins s I =>
  thn (h pos pins s I) fun u s1 ⟨v, H1, I1, r, q⟩ => ⟨v, H1, I1, r, k v H1 q⟩
theorem wg_mono {v : V} {σ : L2.St} {H : Hp} {Q Q' : L2.St → Hp → Prop} (h : wg X tg v σ H Q) (k : ∀ σ' H', Q σ' H' → Q' σ' H') : wg X tg v σ H Q' := fun pins s u I r =>
  thn (h pins s u I r) fun _ s1 ⟨σ', H1, I1, q⟩ => ⟨σ', H1, I1, k σ' H1 q⟩
theorem wgs_mono {vs : List V} {σ : L2.St} {H : Hp} {Q Q' : L2.St → Hp → Prop} (h : wgs X es vs σ H Q) (k : ∀ σ' H', Q σ' H' → Q' σ' H') : wgs X es vs σ H Q' := fun pins s u I r =>
  thn (h pins s u I r) fun _ s1 ⟨σ', H1, I1, q⟩ => ⟨σ', H1, I1, k σ' H1 q⟩
theorem wi_mono {σ : L2.St} {H : Hp} {R R' : It → Hp → Prop} (h : wi X tg iter σ H R) (k : ∀ J H', R J H' → R' J H') : wi X tg iter σ H R' := fun pins s I =>
  thn (h pins s I) fun v s1 q => thn q fun itv s2 ⟨it, fp, tn, J, H', e, I2, T, st, f, r⟩ => ⟨it, fp, tn, J, H', e, I2, T, st, f, k J H' r⟩
structure EndsLe (D D' : Ends) : Prop where
  nx : ∀ σ H, D.nx σ H → D'.nx σ H
  rt : ∀ v H, D.rt v H → D'.rt v H
  bk : ∀ σ H, D.bk σ H → D'.bk σ H
  ct : ∀ σ H, D.ct σ H → D'.ct σ H
theorem SP_mono {pins : List (Addr × Obj)} {D D' : Ends} (l : EndsLe D D') {f : Flow} {s' : Shared} (h : SP X pins D f s') : SP X pins D' f s' := by
  cases f with
  | next => obtain ⟨σ', H', I, q⟩ := h; exact ⟨σ', H', I, l.nx _ _ q⟩
  | brk => obtain ⟨σ', H', I, q⟩ := h; exact ⟨σ', H', I, l.bk _ _ q⟩
  | cont => obtain ⟨σ', H', I, q⟩ := h; exact ⟨σ', H', I, l.ct _ _ q⟩
  | ret u => obtain ⟨v, σ', H', I, r, q⟩ := h; exact ⟨v, σ', H', I, r, l.rt _ _ q⟩
theorem ws_mono {σ : L2.St} {H : Hp} {D D' : Ends} (h : ws X st D σ H) (l : EndsLe D D') : ws X st D' σ H := fun pins s I => thn (h pins s I) fun _ _ q => SP_mono l q
theorem wss_mono {σ : L2.St} {H : Hp} {D D' : Ends} (h : wss X sts D σ H) (l : EndsLe D D') : wss X sts D' σ H := fun pins s I => thn (h pins s I) fun _ _ q => SP_mono l q
end
/-! ### the judgements over data -/
def PostE (Γ : Ct) (F : Hp) (δ : Dl) (σ : L2.St) (Q : D → Mu → Prop) : VK := fun v H' => ∃ F' d μ', Same F F' ∧ At Γ F' δ μ' σ H' ∧ Dp Γ.X.K F' d v ∧ Q d μ'
def PostA (Γ : Ct) (F : Hp) (δ : Dl) (σ : L2.St) (Q : List D → Mu → Prop) : List V → Hp → Prop := fun vs H' => ∃ F' ds μ', Same F F' ∧ At Γ F' δ μ' σ H' ∧ Dps Γ.X.K F' ds vs ∧ Q ds μ'
def PostT (Γ : Ct) (F : Hp) (δ : Dl) (σ : L2.St) (Q : Bool → Mu → Prop) : Bool → Hp → Prop := fun b H' => ∃ F' μ', Same F F' ∧ At Γ F' δ μ' σ H' ∧ Q b μ'
def PostN (Γ : Ct) (F : Hp) (Q : Dl → Mu → Prop) : L2.St → Hp → Prop := fun σ' H' => ∃ F' δ' μ', Same F F' ∧ At Γ F' δ' μ' σ' H' ∧ Q δ' μ'
def PostR (Γ : Ct) (F : Hp) (Q : D → Mu → Prop) : VK := fun v H' => ∃ F' d μ', Same F F' ∧ Step Γ.F0 Γ.μ0 Γ.H0 F' μ' H' ∧ Sx Γ.X.K F' μ' H' ∧ Dp Γ.X.K F' d v ∧ Q d μ'
structure En where
  nx : Dl → Mu → Prop
  rt : D → Mu → Prop
  bk : Dl → Mu → Prop := fun _ _ => False
  ct : Dl → Mu → Prop := fun _ _ => False
def En.to (E : En) (Γ : Ct) (F : Hp) : Ends := ⟨PostN Γ F E.nx, PostR Γ F E.rt, PostN Γ F E.bk, PostN Γ F E.ct⟩
def ed (Γ : Ct) (e : Expr) (δ : Dl) (μ : Mu) (Q : D → Mu → Prop) : Prop := ∀ F σ H, At Γ F δ μ σ H → we Γ.X e σ H (PostE Γ F δ σ Q)
def et (Γ : Ct) (e : Expr) (δ : Dl) (μ : Mu) (Q : Bool → Mu → Prop) : Prop := ∀ F σ H, At Γ F δ μ σ H → wt Γ.X e σ H (PostT Γ F δ σ Q)
def ew (Γ : Ct) (e : Expr) (δ : Dl) (μ : Mu) (Q : Bool → Mu → Prop) : Prop := ∀ F σ H, At Γ F δ μ σ H → ww Γ.X e σ H (PostT Γ F δ σ Q)
def ea (Γ : Ct) (es : List Expr) (δ : Dl) (μ : Mu) (Q : List D → Mu → Prop) : Prop := ∀ F σ H, At Γ F δ μ σ H → wa Γ.X es σ H (PostA Γ F δ σ Q)
def sd (Γ : Ct) (st : Stmt) (δ : Dl) (μ : Mu) (E : En) : Prop := ∀ F σ H, At Γ F δ μ σ H → ws Γ.X st (E.to Γ F) σ H
def sds (Γ : Ct) (st : List Stmt) (δ : Dl) (μ : Mu) (E : En) : Prop := ∀ F σ H, At Γ F δ μ σ H → wss Γ.X st (E.to Γ F) σ H
def gd (Γ : Ct) (tg : Expr) (d : D) (δ : Dl) (μ : Mu) (Q : Dl → Mu → Prop) : Prop := ∀ F σ H v, At Γ F δ μ σ H → Dp Γ.X.K F d v → wg Γ.X tg v σ H (PostN Γ F Q)
def gds (Γ : Ct) (tg : List Expr) (ds : List D) (δ : Dl) (μ : Mu) (Q : Dl → Mu → Prop) : Prop := ∀ F σ H vs, At Γ F δ μ σ H → Dps Γ.X.K F ds vs → wgs Γ.X tg vs σ H (PostN Γ F Q)
section
variable {Γ : Ct} {F F' H H' : Hp} {δ : Dl} {μ : Mu} {σ : L2.St}
theorem PostN.up {Q : Dl → Mu → Prop} (e : Same F F') {σ' : L2.St} {H' : Hp} (h : PostN Γ F' Q σ' H') : PostN Γ F Q σ' H' := by
  obtain ⟨F2, δ', μ', s, a, q⟩ := h; exact ⟨F2, δ', μ', e.trans s, a, q⟩
theorem PostR.up {Q : D → Mu → Prop} (e : Same F F') {v : V} {H' : Hp} (h : PostR Γ F' Q v H') : PostR Γ F Q v H' := by
  obtain ⟨F2, d, μ', s, a, q⟩ := h; exact ⟨F2, d, μ', e.trans s, a, q⟩
theorem PostE.up {Q : D → Mu → Prop} (e : Same F F') {v : V} {H' : Hp} (h : PostE Γ F' δ σ Q v H') : PostE Γ F δ σ Q v H' := by
  obtain ⟨F2, d, μ', s, a, q⟩ := h; exact ⟨F2, d, μ', e.trans s, a, q⟩
theorem PostT.up {Q : Bool → Mu → Prop} (e : Same F F') {v : Bool} {H' : Hp} (h : PostT Γ F' δ σ Q v H') : PostT Γ F δ σ Q v H' := by
  obtain ⟨F2, μ', s, a, q⟩ := h; exact ⟨F2, μ', e.trans s, a, q⟩
theorem PostA.up {Q : List D → Mu → Prop} (e : Same F F') {v : List V} {H' : Hp} (h : PostA Γ F' δ σ Q v H') : PostA Γ F δ σ Q v H' := by
  obtain ⟨F2, d, μ', s, a, q⟩ := h; exact ⟨F2, d, μ', e.trans s, a, q⟩
theorem En.up {E : En} (e : Same F F') : EndsLe (E.to Γ F') (E.to Γ F) := ⟨fun _ _ h => h.up e, fun _ _ h => h.up e, fun _ _ h => h.up e, fun _ _ h => h.up e⟩
structure EnLe (E E' : En) : Prop where
  nx : ∀ δ μ, E.nx δ μ → E'.nx δ μ
  rt : ∀ d μ, E.rt d μ → E'.rt d μ
  bk : ∀ δ μ, E.bk δ μ → E'.bk δ μ
  ct : ∀ δ μ, E.ct δ μ → E'.ct δ μ
theorem PostN.mono {Q Q' : Dl → Mu → Prop} {σ' : L2.St} {H' : Hp} (h : PostN Γ F Q σ' H') (k : ∀ δ μ, Q δ μ → Q' δ μ) : PostN Γ F Q' σ' H' := by
  obtain ⟨F2, δ', μ', s, a, q⟩ := h; exact ⟨F2, δ', μ', s, a, k _ _ q⟩
theorem PostR.mono {Q Q' : D → Mu → Prop} {v : V} {H' : Hp} (h : PostR Γ F Q v H') (k : ∀ δ μ, Q δ μ → Q' δ μ) : PostR Γ F Q' v H' := by
  obtain ⟨F2, d, μ', s, a, b, r, q⟩ := h; exact ⟨F2, d, μ', s, a, b, r, k _ _ q⟩
theorem EnLe.to {E E' : En} (l : EnLe E E') : EndsLe (E.to Γ F) (E'.to Γ F) := ⟨fun _ _ h => h.mono l.nx, fun _ _ h => h.mono l.rt, fun _ _ h => h.mono l.bk, fun _ _ h => h.mono l.ct⟩
theorem sd_mono {st : Stmt} {E E' : En} (h : sd Γ st δ μ E) (l : EnLe E E') : sd Γ st δ μ E' := fun F σ H a => ws_mono (h F σ H a) l.to
theorem ed_mono {e : Expr} {Q Q' : D → Mu → Prop} (h : ed Γ e δ μ Q) (k : ∀ d μ, Q d μ → Q' d μ) : ed Γ e δ μ Q' := fun F σ H a => we_mono (h F σ H a) fun v H' ⟨F', d, μ', s, a', r, q⟩ => ⟨F', d, μ', s, a', r, k _ _ q⟩
theorem et_mono {e : Expr} {Q Q' : Bool → Mu → Prop} (h : et Γ e δ μ Q) (k : ∀ d μ, Q d μ → Q' d μ) : et Γ e δ μ Q' := fun F σ H a => wt_mono (h F σ H a) fun v H' ⟨F', μ', s, a', q⟩ => ⟨F', μ', s, a', k _ _ q⟩
end
/-! ### names, constants -/
section
variable {Γ : Ct} {δ : Dl} {μ : Mu} {Q : D → Mu → Prop} {pos : Pos} {a b e : Expr}
theorem PostE.here {F : Hp} {H : Hp} {σ : L2.St} {d : D} {v : V} (h : At Γ F δ μ σ H) (r : Dp Γ.X.K F d v) (q : Q d μ) : PostE Γ F δ σ Q v H := ⟨F, d, μ, Same.refl F, h, r, q⟩
/-- a thing known from now on -/
theorem PostE.new {F : Hp} {H : Hp} {σ : L2.St} {d : D} {p : Addr} {o : HO} (h : At Γ F δ μ σ H) (hp : H p = none) (r : Dp Γ.X.K (upd F p o) d (.ref p)) (q : Q d μ) : PostE Γ F δ σ Q (.ref p) (upd H p o) :=
  ⟨upd F p o, d, μ, same_upd (h.sx.sub.free hp), h.pers o hp, r, q⟩
theorem PostE.own {F : Hp} {H : Hp} {σ : L2.St} {p : Addr} {o : HO} {c : Cell} (h : At Γ F δ μ σ H) (hp : H p = none) (hc : CellOk Γ.X.K F (upd H p o) p c) (q : Q (.ref p) ((p, c) :: μ)) : PostE Γ F δ σ Q (.ref p) (upd H p o) :=
  ⟨F, .ref p, (p, c) :: μ, Same.refl F, h.own hp hc, by rw [Dp], q⟩
theorem ed_name {i : Nat} {x : Str} {d : D} (hN : Γ.X.N[i]? = some x) (hδ : δ[i]? = some (some d)) (q : Q d μ) (hv : Vis Γ.X.env.scope x := by first | exact Or.inl rfl | exact Or.inr (Or.inl rfl) | exact Or.inr (Or.inr rfl))
    (hd : (x == ("__debug__" : Str)) = false := by decide +kernel) (hcd : (x == ("__classdict__" : Str)) = false := by decide +kernel) : ed Γ (.Name x pos) δ μ Q := fun F σ H h => by
  obtain ⟨v, e1, r⟩ := h.var hδ
  exact we_of (pe_var hN hv hd hcd) ⟨v, e1, PostE.here h r q⟩
theorem ed_int {i j} (q : Q (.int i) μ) : ed Γ (.Constant (.int i) j pos) δ μ Q := fun F σ H h => we_of pe_int (PostE.here (v := .int i) h (by rw [Dp]) q)
theorem ed_bl {i j} (q : Q (.bl i) μ) : ed Γ (.Constant (.bool i) j pos) δ μ Q := fun F σ H h => we_of pe_bl (PostE.here (v := .bl i) h (by rw [Dp]) q)
theorem ed_str {i j} (q : Q (.str i) μ) : ed Γ (.Constant (.str i) j pos) δ μ Q := fun F σ H h => we_of pe_str (PostE.here (v := .str i) h (by rw [Dp]) q)
theorem ed_non {j} (q : Q .non μ) : ed Γ (.Constant .none j pos) δ μ Q := fun F σ H h => we_of pe_non (PostE.here (v := .non) h (by rw [Dp]) q)
theorem ed_glob {x : Str} {v : V} {u : Value} {d : D} (hm : Γ.X.mg x = some u) (r : RelV v u) (hD : ∀ F, Dp Γ.X.K F d v) (q : Q d μ) (hg : Gl Γ.X x := by rfl) (hd : (x == ("__debug__" : Str)) = false := by decide +kernel) : ed Γ (.Name x pos) δ μ Q := fun F σ H h =>
  we_of (pe_glob hg hm r hd) (PostE.here (v := v) h (hD F) q)
/-! ### operators, calls, subscripts: semantic -/
/-- what a two-place function does with values -/
def rwf (X : Cx) (f : Value → Value → Sem Value) : R2 := fun x y H Q => ∀ (pins : List (Addr × Obj)) (s : Shared) (σ : L2.St) (v u : Value), Inv X pins σ H s → RelV x v → RelV y u → wpAny (model X.prog X.w) X.A (f v u) (EP X pins σ Q) X.xe s
theorem rwf_ok {X : Cx} {f : Value → Value → Sem Value} : OpR X f (rwf X f) := fun pins s σ H x y v u Q I rx ry h => h pins s σ v u I rx ry
theorem EP_mono {X : Cx} {pins : List (Addr × Obj)} {σ : L2.St} {Q Q' : VK} {u : Value} {s : Shared} (h : EP X pins σ Q u s) (k : ∀ v H, Q v H → Q' v H) : EP X pins σ Q' u s := by
  obtain ⟨v, H, I, r, q⟩ := h; exact ⟨v, H, I, r, k v H q⟩
theorem rwf_mono {X : Cx} {f : Value → Value → Sem Value} {x y : V} {H : Hp} {Q Q' : VK} (h : rwf X f x y H Q) (k : ∀ v H', Q v H' → Q' v H') : rwf X f x y H Q' := fun pins s σ v u I rx ry => thn (h pins s σ v u I rx ry) fun _ _ e => EP_mono e k
def opd (Γ : Ct) (f : Value → Value → Sem Value) (x y : D) (δ : Dl) (μ : Mu) (Q : D → Mu → Prop) : Prop := ∀ F σ H vx vy, At Γ F δ μ σ H → Dp Γ.X.K F x vx → Dp Γ.X.K F y vy → rwf Γ.X f vx vy H (PostE Γ F δ σ Q)
theorem ed_two {f : Value → Value → Sem Value} (h : ed Γ a δ μ fun x μ1 => ed Γ b δ μ1 fun y μ2 => opd Γ f x y δ μ2 Q) (F σ H) (at_ : At Γ F δ μ σ H) : tOp (rwf Γ.X f) (we Γ.X a) (we Γ.X b) σ H (PostE Γ F δ σ Q) := by
  refine we_mono (h F σ H at_) fun x H1 ⟨F1, d1, μ1, s1, h1, r1, q1⟩ => ?_
  refine we_mono (q1 F1 σ H1 h1) fun y H2 ⟨F2, d2, μ2, s2, h2, r2, q2⟩ => ?_
  exact rwf_mono (q2 F2 σ H2 x y h2 (r1.mono s2) r2) fun v H' z => PostE.up (s1.trans s2) z
theorem ed_bin {op : Operator} (h : ed Γ a δ μ fun x μ1 => ed Γ b δ μ1 fun y μ2 => opd Γ (binaryOp op) x y δ μ2 Q) : ed Γ (.BinOp a op b pos) δ μ Q := fun F σ H at_ => we_of (pe_op rwf_ok pe_we pe_we) (ed_two h F σ H at_)
theorem ed_cmp {op : CmpOp} (hb : behindInMarks op b = false) (h : ed Γ a δ μ fun x μ1 => ed Γ b δ μ1 fun y μ2 => opd Γ (compareOp op) x y δ μ2 Q) : ed Γ (.Compare a [op] [b] pos) δ μ Q := fun F σ H at_ => we_of (pe_cmpR rwf_ok pe_we pe_we hb) (ed_two h F σ H at_)
theorem et_cmp {op : CmpOp} {Q : Bool → Mu → Prop} (hb : behindInMarks op b = false) (h : ed Γ a δ μ fun x μ1 => ed Γ b δ μ1 fun y μ2 => opd Γ (compareOp op) x y δ μ2 fun d μ' => ∃ c, d = .bl c ∧ Q c μ') : et Γ (.Compare a [op] [b] pos) δ μ Q := fun F σ H at_ => by
  refine wt_of (pt_cmpR rwf_ok pe_we pe_we hb) (we_mono (ed_two h F σ H at_) fun x H1 z1 => we_mono z1 fun y H2 z2 => rwf_mono z2 fun v H' z3 => ?_)
  obtain ⟨F', d, μ', s, a', rr, c, rfl, q⟩ := z3
  rw [Dp] at rr
  exact ⟨c, rr, F', μ', s, a', q⟩
/-- a < b < c -/
theorem ed_chain {op op' : CmpOp} {c : Expr} (h : ed Γ a δ μ fun x μ1 => ed Γ b δ μ1 fun y μ2 => opd Γ (compareOp op) x y δ μ2 fun d μ3 => ∃ k, d = .bl k ∧ if k = true then ed Γ c δ μ3 fun z μ4 => opd Γ (compareOp op') y z δ μ4 Q else Q (.bl false) μ3)
    (hm : lastMarks [op, op'] [b, c] = false := by with_unfolding_all rfl) : ed Γ (.Compare a [op, op'] [b, c] pos) δ μ Q := fun F σ H at_ => by
  refine we_of (pe_chain rwf_ok rwf_ok pe_we pe_we pe_we hm) ?_
  refine we_mono (h F σ H at_) fun x H1 ⟨F1, d1, μ1, s1, h1, r1, q1⟩ => ?_
  refine we_mono (q1 F1 σ H1 h1) fun y H2 ⟨F2, d2, μ2, s2, h2, r2, q2⟩ => ?_
  refine rwf_mono (q2 F2 σ H2 x y h2 (r1.mono s2) r2) fun v H3 ⟨F3, d3, μ3, s3, h3, r3, k, e3, q3⟩ => ?_
  subst e3
  rw [Dp] at r3
  refine ⟨k, r3, ?_⟩
  cases k with
  | true =>
    rw [if_pos rfl] at q3 ⊢
    refine we_mono (q3 F3 σ H3 h3) fun z H4 ⟨F4, d4, μ4, s4, h4, r4, q4⟩ => ?_
    exact rwf_mono (q4 F4 σ H4 y z h4 ((r2.mono s3).mono s4) r4) fun v H' z => PostE.up (((s1.trans s2).trans s3).trans s4) z
  | false =>
    rw [if_neg Bool.false_ne_true] at q3 ⊢
    exact PostE.up ((s1.trans s2).trans s3) (PostE.here (d := .bl false) h3 (by rw [Dp]) q3)
def ruf (X : Cx) (f : Value → Sem Value) : V → Hp → VK → Prop := fun x H Q => ∀ (pins : List (Addr × Obj)) (s : Shared) (σ : L2.St) (v : Value), Inv X pins σ H s → RelV x v → wpAny (model X.prog X.w) X.A (f v) (EP X pins σ Q) X.xe s
theorem ruf_ok {X : Cx} {f : Value → Sem Value} : UnR X f (ruf X f) := fun pins s σ H x v Q I rx h => h pins s σ v I rx
theorem ruf_mono {X : Cx} {f : Value → Sem Value} {x : V} {H : Hp} {Q Q' : VK} (h : ruf X f x H Q) (k : ∀ v H', Q v H' → Q' v H') : ruf X f x H Q' := fun pins s σ v I rx => thn (h pins s σ v I rx) fun _ _ e => EP_mono e k
def und (Γ : Ct) (f : Value → Sem Value) (x : D) (δ : Dl) (μ : Mu) (Q : D → Mu → Prop) : Prop := ∀ F σ H vx, At Γ F δ μ σ H → Dp Γ.X.K F x vx → ruf Γ.X f vx H (PostE Γ F δ σ Q)
theorem ed_un {op : UnaryOp} (h : ed Γ a δ μ fun x μ1 => und Γ (unaryOp op) x δ μ1 Q) : ed Γ (.UnaryOp op a pos) δ μ Q := fun F σ H at_ => we_of (pe_un ruf_ok pe_we) (we_mono (h F σ H at_) fun x H1 ⟨F1, d1, μ1, s1, h1, r1, q1⟩ => ruf_mono (q1 F1 σ H1 x h1 r1) fun v H' z => PostE.up s1 z)
/-- a known value called with values -/
def rcf (X : Cx) (f : Value) : List V → Hp → VK → Prop := fun xs H Q => ∀ (pins : List (Addr × Obj)) (s : Shared) (σ : L2.St) (us : List Value), Inv X pins σ H s → Vals xs us → wpAny (model X.prog X.w) X.A (call f us) (EP X pins σ Q) X.xe s
theorem rcf_ok {X : Cx} {f : Value} : CallR X f (rcf X f) := fun pins s σ H x v Q I rx h => h pins s σ v I rx
theorem rcf_mono {X : Cx} {f : Value} {x : List V} {H : Hp} {Q Q' : VK} (h : rcf X f x H Q) (k : ∀ v H', Q v H' → Q' v H') : rcf X f x H Q' := fun pins s σ v I rx => thn (h pins s σ v I rx) fun _ _ e => EP_mono e k
def cld (Γ : Ct) (f : Value) (xs : List D) (δ : Dl) (μ : Mu) (Q : D → Mu → Prop) : Prop := ∀ F σ H vs, At Γ F δ μ σ H → Dps Γ.X.K F xs vs → rcf Γ.X f vs H (PostE Γ F δ σ Q)
theorem ed_callB {x : Str} {id : String} {es : List Expr} {p : Pos} (hm : Γ.X.mg x = none) (hv : bootBuiltins x = some (.builtin id)) (h : ea Γ (e :: es) δ μ fun xs μ1 => cld Γ (.builtin id) xs δ μ1 Q) (hg : Gl Γ.X x := by rfl)
    (hn : x ≠ "__name__" := by decide +kernel) (hdb : (x == ("__debug__" : Str)) = false := by decide +kernel)
    (he : starEach (e :: es) Γ.X.env = (false, eval e Γ.X.env) :: starEach es Γ.X.env := by rfl) (hpl : (backTo pos (starEach es Γ.X.env)).any (·.1) = false := by rfl) : ed Γ (.Call (.Name x p) (e :: es) [] pos) δ μ Q := fun F σ H at_ =>
  we_of (pe_callB rcf_ok hg hm hv pa_wa hn hdb he hpl) (wa_mono (h F σ H at_) fun vs H1 ⟨F1, d1, μ1, s1, h1, r1, q1⟩ => rcf_mono (q1 F1 σ H1 vs h1 r1) fun v H' z => PostE.up s1 z)
theorem ed_callTy {x : Str} {T : String} {es : List Expr} {p : Pos} (hm : Γ.X.mg x = none) (hv : bootBuiltins x = some (.type T)) (h : ea Γ (e :: es) δ μ fun xs μ1 => cld Γ (.type T) xs δ μ1 Q) (hg : Gl Γ.X x := by rfl)
    (hn : x ≠ "__name__" := by decide +kernel) (hdb : (x == ("__debug__" : Str)) = false := by decide +kernel)
    (he : starEach (e :: es) Γ.X.env = (false, eval e Γ.X.env) :: starEach es Γ.X.env := by rfl) (hpl : (backTo pos (starEach es Γ.X.env)).any (·.1) = false := by rfl) : ed Γ (.Call (.Name x p) (e :: es) [] pos) δ μ Q := fun F σ H at_ =>
  we_of (pe_callTy rcf_ok hg hm hv pa_wa hn hdb he hpl) (wa_mono (h F σ H at_) fun vs H1 ⟨F1, d1, μ1, s1, h1, r1, q1⟩ => rcf_mono (q1 F1 σ H1 vs h1 r1) fun v H' z => PostE.up s1 z)
/-- a[b] -/
def rxf (X : Cx) : R2 := fun x y H Q => ∀ (value slice : Expr) (pins : List (Addr × Obj)) (s : Shared) (σ : L2.St) (v u : Value), Inv X pins σ H s → RelV x v → RelV y u →
    subscripted slice false v u = operate [v, u] (getItem v u) → wpAny (model X.prog X.w) X.A (subscriptTail value slice v u) (EP X pins σ Q) X.xe s
theorem rxf_ok {X : Cx} : IxR X (rxf X) := fun value slice pins s σ H x y v u Q I rx ry h hs => h value slice pins s σ v u I rx ry hs
theorem rxf_mono {X : Cx} {x y : V} {H : Hp} {Q Q' : VK} (h : rxf X x y H Q) (k : ∀ v H', Q v H' → Q' v H') : rxf X x y H Q' := fun va sl pins s σ v u I rx ry hs => thn (h va sl pins s σ v u I rx ry hs) fun _ _ e => EP_mono e k
def ixd (Γ : Ct) (x y : D) (δ : Dl) (μ : Mu) (Q : D → Mu → Prop) : Prop := ∀ F σ H vx vy, At Γ F δ μ σ H → Dp Γ.X.K F x vx → Dp Γ.X.K F y vy → rxf Γ.X vx vy H (PostE Γ F δ σ Q)
theorem ed_ix (h : ed Γ a δ μ fun x μ1 => ed Γ b δ μ1 fun y μ2 => ixd Γ x y δ μ2 Q) (hs : PlainIx b := by exact fun _ _ => rfl) : ed Γ (.Subscript a b pos) δ μ Q := fun F σ H at_ => we_of (pe_ix rxf_ok pe_we pe_we hs) (by
  refine we_mono (h F σ H at_) fun x H1 ⟨F1, d1, μ1, s1, h1, r1, q1⟩ => ?_
  refine we_mono (q1 F1 σ H1 h1) fun y H2 ⟨F2, d2, μ2, s2, h2, r2, q2⟩ => ?_
  exact rxf_mono (q2 F2 σ H2 x y h2 (r1.mono s2) r2) fun v H' z => PostE.up (s1.trans s2) z)
def eo (Γ : Ct) (e : Option Expr) (δ : Dl) (μ : Mu) (Q : Option Int → Mu → Prop) : Prop := match e with
  | none => Q none μ
  | some e => ed Γ e δ μ fun d μ' => ∃ i, d = .int i ∧ Q (some i) μ'
def sld (Γ : Ct) (r : V → Option Int → Option Int → Hp → VK → Prop) (x : D) (lo hi : Option Int) (δ : Dl) (μ : Mu) (Q : D → Mu → Prop) : Prop := ∀ F σ H vx, At Γ F δ μ σ H → Dp Γ.X.K F x vx → r vx lo hi H (PostE Γ F δ σ Q)
def tOptE (X : Cx) : Option Expr → TO
  | none => tNoPart
  | some e => tPart (we X e)
theorem po_opt {X : Cx} : ∀ e : Option Expr, PO X e (tOptE X e)
  | none => po_none
  | some _ => po_some pe_we
theorem eo_run {o : Option Expr} {Q : Option Int → Mu → Prop} (h : eo Γ o δ μ Q) (F σ H) (at_ : At Γ F δ μ σ H) {R : Option Int → Hp → Prop} (k : ∀ i F' H' μ', Same F F' → At Γ F' δ μ' σ H' → Q i μ' → R i H') : tOptE Γ.X o σ H R := by
  cases o with
  | none => exact k _ F H μ (Same.refl F) at_ h
  | some e =>
    refine we_mono (h F σ H at_) fun x H1 ⟨F1, d1, μ1, s1, h1, r1, i, e1, q1⟩ => ?_
    subst e1
    rw [Dp] at r1
    exact ⟨i, r1, k _ F1 H1 μ1 s1 h1 q1⟩
theorem ed_slice {lo hi : Option Expr} {p2 : Pos} {r : V → Option Int → Option Int → Hp → VK → Prop} (hr : SlR Γ.X r) (hmono : ∀ x l u H Q Q', (∀ v H', Q v H' → Q' v H') → r x l u H Q → r x l u H Q')
    (h : ed Γ a δ μ fun x μ1 => eo Γ lo δ μ1 fun l μ2 => eo Γ hi δ μ2 fun u μ3 => sld Γ r x l u δ μ3 Q) : ed Γ (.Subscript a (.Slice lo hi none p2) pos) δ μ Q := fun F σ H at_ => by
  refine we_of (pe_slice hr pe_we (po_opt lo) (po_opt hi)) (we_mono (h F σ H at_) fun x H1 ⟨F1, d1, μ1, s1, h1, r1, q1⟩ => ?_)
  refine eo_run q1 F1 σ H1 h1 fun l F2 H2 μ2 s2 h2 q2 => ?_
  refine eo_run q2 F2 σ H2 h2 fun u F3 H3 μ3 s3 h3 q3 => ?_
  exact hmono _ _ _ _ _ _ (fun v H' z => PostE.up ((s1.trans s2).trans s3) z) (q3 F3 σ H3 x h3 ((r1.mono s2).mono s3))
/-- o.m(..) of a built-in type -/
def rmf (X : Cx) (id : String) : V → List V → Hp → VK → Prop := fun x xs H Q => ∀ (pins : List (Addr × Obj)) (s : Shared) (σ : L2.St) (v : Value) (us : List Value), Inv X pins σ H s → RelV x v → Vals xs us → wpAny (model X.prog X.w) X.A (call (.builtin id) (v :: us)) (EP X pins σ Q) X.xe s
theorem rmf_ok {X : Cx} {id : String} : MtR X id (rmf X id) := fun pins s σ H x xs v us Q I rx rs h => h pins s σ v us I rx rs
theorem rmf_mono {X : Cx} {id : String} {x : V} {xs : List V} {H : Hp} {Q Q' : VK} (h : rmf X id x xs H Q) (k : ∀ v H', Q v H' → Q' v H') : rmf X id x xs H Q' := fun pins s σ v us I rx rs => thn (h pins s σ v us I rx rs) fun _ _ e => EP_mono e k
/-- the receiver's type, over data -/
def tyD (T : String) (x : D) (μ : Mu) : Prop := match x with
  | .str _ => T = "str"
  | .lst _ => T = "list"
  | .dK _ _ => T = "dict"
  | .ref p => (∃ ds, (p, Cell.lst ds) ∈ μ ∧ T = "list") ∨ (∃ ks ds, (p, Cell.dK ks ds) ∈ μ ∧ T = "dict") ∨ (∃ ks ds, (p, Cell.dT ks ds) ∈ μ ∧ T = "dict") ∨ (∃ S n, (p, Cell.set S n) ∈ μ ∧ T = "set")
  | _ => False
def mtd (Γ : Ct) (id : String) (x : D) (xs : List D) (δ : Dl) (μ : Mu) (Q : D → Mu → Prop) : Prop := ∀ F σ H vx vs, At Γ F δ μ σ H → Dp Γ.X.K F x vx → Dps Γ.X.K F xs vs → rmf Γ.X id vx vs H (PostE Γ F δ σ Q)
/-- a bool as a test -/
theorem et_val {Q : Bool → Mu → Prop} (h : ed Γ e δ μ fun d μ' => ∃ c, d = .bl c ∧ Q c μ') (he : ∀ whole, isTrue e Γ.X.env whole = (do let v ← whole; standAt e.pos; holding [v] (truthy v)) := by intro _; rfl) : et Γ e δ μ Q := fun F σ H at_ => by
  refine wt_of (pt_val pe_we he) (we_mono (h F σ H at_) fun v H' ⟨F', d, μ', s, a', rr, c, e1, q⟩ => ?_)
  subst e1
  rw [Dp] at rr
  exact ⟨c, rr, F', μ', s, a', q⟩
theorem et_not {Q : Bool → Mu → Prop} (h : et Γ e δ μ fun c μ' => Q (!c) μ') : et Γ (.UnaryOp .Not e pos) δ μ Q := fun F σ H at_ => wt_of (pt_not pt_wt) (wt_mono (h F σ H at_) fun c H' ⟨F', μ', s, a', q⟩ => ⟨F', μ', s, a', q⟩)
theorem ew_and1 {Q : Bool → Mu → Prop} (h : et Γ e δ μ Q) : ew Γ (.BoolOp .And [e] pos) δ μ Q := fun F σ H at_ => ww_of (pw_and1 pt_wt) (h F σ H at_)
theorem ew_or1 {Q : Bool → Mu → Prop} (h : et Γ e δ μ Q) : ew Γ (.BoolOp .Or [e] pos) δ μ Q := fun F σ H at_ => ww_of (pw_or1 pt_wt) (h F σ H at_)
theorem ew_and {rest : List Expr} {Q : Bool → Mu → Prop} (h : et Γ a δ μ fun c μ' => if c = true then ew Γ (.BoolOp .And (b :: rest) pos) δ μ' Q else Q false μ') : ew Γ (.BoolOp .And (a :: b :: rest) pos) δ μ Q := fun F σ H at_ => by
  refine ww_of (pw_and pt_wt pw_ww) (wt_mono (h F σ H at_) fun c H' ⟨F', μ', s, a', q⟩ => ?_)
  cases c with
  | true =>
    rw [if_pos rfl] at q ⊢
    exact ww_mono (q F' σ H' a') fun c H2 z => z.up s
  | false =>
    rw [if_neg Bool.false_ne_true] at q ⊢
    exact ⟨F', μ', s, a', q⟩
theorem ew_or {rest : List Expr} {Q : Bool → Mu → Prop} (h : et Γ a δ μ fun c μ' => if c = true then Q true μ' else ew Γ (.BoolOp .Or (b :: rest) pos) δ μ' Q) : ew Γ (.BoolOp .Or (a :: b :: rest) pos) δ μ Q := fun F σ H at_ => by
  refine ww_of (pw_or pt_wt pw_ww) (wt_mono (h F σ H at_) fun c H' ⟨F', μ', s, a', q⟩ => ?_)
  cases c with
  | true =>
    rw [if_pos rfl] at q ⊢
    exact ⟨F', μ', s, a', q⟩
  | false =>
    rw [if_neg Bool.false_ne_true] at q ⊢
    exact ww_mono (q F' σ H' a') fun c H2 z => z.up s
theorem et_ew {Q : Bool → Mu → Prop} (h : ew Γ e δ μ Q) : et Γ e δ μ Q := fun F σ H at_ => wt_of pw_ww.pt (h F σ H at_)
/-- and, or, not as values of bools -/
theorem ed_one {op} (h : ed Γ a δ μ Q) : ed Γ (.BoolOp op [a] pos) δ μ Q := fun F σ H at_ => we_of (pe_one pe_we) (h F σ H at_)
theorem ed_and {rest : List Expr} (h : ed Γ a δ μ fun d μ' => ∃ c, d = .bl c ∧ if c = true then ed Γ (.BoolOp .And (b :: rest) pos) δ μ' Q else Q (.bl false) μ') : ed Γ (.BoolOp .And (a :: b :: rest) pos) δ μ Q := fun F σ H at_ => by
  refine we_of (pe_and pe_we pe_we) (we_mono (h F σ H at_) fun v H' ⟨F', d, μ', s, a', rr, c, e1, q⟩ => ?_)
  subst e1
  rw [Dp] at rr
  refine ⟨c, rr, ?_⟩
  cases c with
  | true =>
    rw [if_pos rfl] at q ⊢
    exact we_mono (q F' σ H' a') fun c H2 z => z.up s
  | false =>
    rw [if_neg Bool.false_ne_true] at q ⊢
    exact ⟨F', _, μ', s, a', by rw [Dp], q⟩
theorem ed_or {rest : List Expr} (h : ed Γ a δ μ fun d μ' => ∃ c, d = .bl c ∧ if c = true then Q (.bl true) μ' else ed Γ (.BoolOp .Or (b :: rest) pos) δ μ' Q) : ed Γ (.BoolOp .Or (a :: b :: rest) pos) δ μ Q := fun F σ H at_ => by
  refine we_of (pe_or pe_we pe_we) (we_mono (h F σ H at_) fun v H' ⟨F', d, μ', s, a', rr, c, e1, q⟩ => ?_)
  subst e1
  rw [Dp] at rr
  refine ⟨c, rr, ?_⟩
  cases c with
  | true =>
    rw [if_pos rfl] at q ⊢
    exact ⟨F', _, μ', s, a', by rw [Dp], q⟩
  | false =>
    rw [if_neg Bool.false_ne_true] at q ⊢
    exact we_mono (q F' σ H' a') fun c H2 z => z.up s
theorem ed_not (h : ed Γ a δ μ fun d μ' => ∃ c, d = .bl c ∧ Q (.bl (!c)) μ') : ed Γ (.UnaryOp .Not a pos) δ μ Q := fun F σ H at_ => by
  refine we_of (pe_not pe_we) (we_mono (h F σ H at_) fun v H' ⟨F', d, μ', s, a', rr, c, e1, q⟩ => ?_)
  subst e1
  rw [Dp] at rr
  exact ⟨c, rr, F', _, μ', s, a', by rw [Dp], q⟩
theorem ed_if {c : Expr} (h : et Γ c δ μ fun k μ' => if k = true then ed Γ a δ μ' Q else ed Γ b δ μ' Q) : ed Γ (.IfExp c a b pos) δ μ Q := fun F σ H at_ => by
  refine we_of (pe_ifExp pt_wt pe_we pe_we) (wt_mono (h F σ H at_) fun k H' ⟨F', μ', s, a', q⟩ => ?_)
  cases k with
  | true =>
    rw [if_pos rfl] at q ⊢
    exact we_mono (q F' σ H' a') fun c H2 z => z.up s
  | false =>
    rw [if_neg Bool.false_ne_true] at q ⊢
    exact we_mono (q F' σ H' a') fun c H2 z => z.up s
/-! ### arguments, displays -/
theorem ea_nil {Q : List D → Mu → Prop} (q : Q [] μ) : ea Γ [] δ μ Q := fun F σ H at_ => wa_of pa_nil ⟨F, [], μ, Same.refl F, at_, Dps.nil, q⟩
theorem ea_cons {es : List Expr} {Q : List D → Mu → Prop} (h : ed Γ e δ μ fun d μ1 => ea Γ es δ μ1 fun ds μ2 => Q (d :: ds) μ2) (hs : starEach (e :: es) Γ.X.env = (false, eval e Γ.X.env) :: starEach es Γ.X.env := by rfl) : ea Γ (e :: es) δ μ Q := fun F σ H at_ => by
  refine wa_of (pa_cons pe_we pa_wa hs) (we_mono (h F σ H at_) fun v H1 ⟨F1, d, μ1, s1, a1, r1, q1⟩ => ?_)
  refine wa_mono (q1 F1 σ H1 a1) fun vs H2 ⟨F2, ds, μ2, s2, a2, r2, q2⟩ => ?_
  exact ⟨F2, d :: ds, μ2, s1.trans s2, a2, Dps.cons (r1.mono s2) r2, q2⟩
theorem ed_tup {es : List Expr} {k} (h : ea Γ es δ μ fun ds μ' => ds.length ≤ 1000 ∧ Q (.tup ds) μ') : ed Γ (.Tuple es k pos) δ μ Q := fun F σ H at_ => by
  refine we_of (pe_tup pa_wa) (wa_mono (h F σ H at_) fun vs H1 ⟨F1, ds, μ1, s1, a1, r1, l, q1⟩ => ⟨?_, fun p hp => ?_⟩)
  · rw [← r1.length]; exact Nat.le_of_lt (small1000 l)
  · refine PostE.up s1 (PostE.new a1 hp ?_ q1)
    rw [Dp]
    exact ⟨p, vs, rfl, .inl (.inl upd_same), r1.mono (same_upd (a1.sx.sub.free hp))⟩
theorem ed_lst {es : List Expr} (h : ea Γ es δ μ fun ds μ' => ds.length ≤ 1000 ∧ Q (.lst ds) μ') : ed Γ (.List es pos) δ μ Q := fun F σ H at_ => by
  refine we_of (pe_lst pa_wa) (wa_mono (h F σ H at_) fun vs H1 ⟨F1, ds, μ1, s1, a1, r1, l, q1⟩ => ⟨?_, fun p hp => ?_⟩)
  · rw [← r1.length]; exact Nat.le_of_lt (small1000 l)
  · refine PostE.up s1 (PostE.new a1 hp ?_ q1)
    rw [Dp]
    exact ⟨p, vs, rfl, upd_same, r1.mono (same_upd (a1.sx.sub.free hp))⟩
/-- an owned list -/
theorem ed_lstO {es : List Expr} (h : ea Γ es δ μ fun ds μ' => ds.length ≤ 1000 ∧ ∀ p, Q (.ref p) ((p, .lst ds) :: μ')) : ed Γ (.List es pos) δ μ Q := fun F σ H at_ => by
  refine we_of (pe_lst pa_wa) (wa_mono (h F σ H at_) fun vs H1 ⟨F1, ds, μ1, s1, a1, r1, l, q1⟩ => ⟨?_, fun p hp => ?_⟩)
  · rw [← r1.length]; exact Nat.le_of_lt (small1000 l)
  · exact PostE.up s1 (PostE.own (c := .lst ds) a1 hp ⟨vs, upd_same, r1⟩ (q1 p))
end
/-! ### statements -/
section
variable {Γ : Ct} {δ : Dl} {μ : Mu} {E : En} {pos : Pos} {e : Expr} {st : Stmt} {rest : List Stmt}
theorem sds_nil (q : E.nx δ μ) : sds Γ [] δ μ E := fun F σ H a => wss_of pss_nil ⟨F, δ, μ, Same.refl F, a, q⟩
theorem sds_cons (h : sd Γ st δ μ { E with nx := fun δ' μ' => sds Γ rest δ' μ' E }) : sds Γ (st :: rest) δ μ E := fun F σ H a => by
  refine wss_of (pss_cons ps_ws pss_wss) (ws_mono (h F σ H a) ⟨fun σ' H' z => ?_, fun _ _ z => z, fun _ _ z => z, fun _ _ z => z⟩)
  obtain ⟨F', δ', μ', s, a', q⟩ := z
  exact wss_mono (q F' σ' H' a') (En.up s)
theorem sd_pass (q : E.nx δ μ) : sd Γ (.Pass pos) δ μ E := fun F σ H a => ws_of ps_pass ⟨F, δ, μ, Same.refl F, a, q⟩
theorem sd_doc {x j pos'} (q : E.nx δ μ) : sd Γ (.Expr (.Constant (.str x) j pos) pos') δ μ E := fun F σ H a => ws_of ps_doc ⟨F, δ, μ, Same.refl F, a, q⟩
theorem sd_expr (h : ed Γ e δ μ fun _ μ' => E.nx δ μ') (hs : swapsWith e none pos.line Γ.X.env = pure false := by rfl) : sd Γ (.Expr e pos) δ μ E := fun F σ H a =>
  ws_of (ps_expr pe_we hs) (we_mono (h F σ H a) fun v H' ⟨F', d, μ', s, a', r, q⟩ => ⟨F', δ, μ', s, a', q⟩)
theorem sd_ret (h : ed Γ e δ μ E.rt) : sd Γ (.Return (some e) pos) δ μ E := fun F σ H a =>
  ws_of (ps_ret pe_we) (we_mono (h F σ H a) fun v H' ⟨F', d, μ', s, a', r, q⟩ => ⟨F', d, μ', s, a'.st, a'.sx, r, q⟩)
theorem sd_retN (q : E.rt .non μ) : sd Γ (.Return none pos) δ μ E := fun F σ H a => ws_of ps_retN ⟨F, .non, μ, Same.refl F, a.st, a.sx, by rw [Dp], q⟩
theorem sd_if {c : Expr} {t f : List Stmt} (h : et Γ c δ μ fun k μ' => if k = true then sds Γ t δ μ' E else sds Γ f δ μ' E) : sd Γ (.If c t f pos) δ μ E := fun F σ H a => by
  refine ws_of (ps_if pt_wt pss_wss pss_wss) (wt_mono (h F σ H a) fun k H' ⟨F', μ', s, a', q⟩ => ?_)
  cases k with
  | true =>
    rw [if_pos rfl] at q ⊢
    exact wss_mono (q F' σ H' a') (En.up s)
  | false =>
    rw [if_neg Bool.false_ne_true] at q ⊢
    exact wss_mono (q F' σ H' a') (En.up s)
theorem gd_name {i : Nat} {x : Str} {d : D} {Q : Dl → Mu → Prop} (hN : Γ.X.N.Nodup) (hi : Γ.X.N[i]? = some x) (q : Q (δ.set i (some d)) μ) (hx : Loc Γ.X.env.scope x := by first | exact .inl rfl | exact .inr rfl)
    (hf : Γ.X.fn x = true ∨ Γ.X.env.scope.names.lookup x = some .local := by first | exact .inl rfl | exact .inr rfl | assumption) : gd Γ (.Name x pos) d δ μ Q := fun F σ H v a r =>
  wg_of (pg_name hN hi hx hf) ⟨F, _, μ, Same.refl F, a.fr_set i r, q⟩
theorem gds_nil {Q : Dl → Mu → Prop} (q : Q δ μ) : gds Γ [] [] δ μ Q := fun F σ H vs a r => wgs_of pgs_nil ⟨r.unnil, F, δ, μ, Same.refl F, a, q⟩
theorem gds_cons {es : List Expr} {d : D} {ds : List D} {Q : Dl → Mu → Prop} (h : gd Γ e d δ μ fun δ' μ' => gds Γ es ds δ' μ' Q) (hs : (assignEach (e :: es) Γ.X.env).map (·.2) = assign e Γ.X.env :: (assignEach es Γ.X.env).map (·.2) := by rfl) :
    gds Γ (e :: es) (d :: ds) δ μ Q := fun F σ H vs a r => by
  obtain ⟨v, ws', rfl, r1, r2⟩ := r.uncons
  refine wgs_of (pgs_cons pg_wg pgs_wgs hs) ⟨v, ws', rfl, wg_mono (h F σ H v a r1) fun σ1 H1 ⟨F1, δ1, μ1, s1, a1, q1⟩ => ?_⟩
  exact wgs_mono (q1 F1 σ1 H1 ws' a1 (r2.mono s1)) fun σ2 H2 z => z.up s1
theorem gd_tup {es : List Expr} {k : Nat} {ds : List D} {n : Nat} {Q : Dl → Mu → Prop} (hc : Γ.X.calm = true) (h : ds.length = n ∧ gds Γ es ds δ μ Q) (hn : (assignEach es Γ.X.env).length = n := by rfl) (hst : (assignEach es Γ.X.env).findIdx? (·.1) = none := by rfl) :
    gd Γ (.Tuple es k pos) (.tup ds) δ μ Q := fun F σ H v a r => by
  rw [Dp] at r
  obtain ⟨p, vs, rfl, hq, r⟩ := r
  exact wg_of (pg_tup hc pgs_wgs hn hst) ⟨p, vs, rfl, Same.sqT a.sx.sub hq, by rw [← r.length]; exact h.1, h.2 F σ H vs a r⟩
theorem sd_asg {tg : Expr} (h : ed Γ e δ μ fun d μ' => gd Γ tg d δ μ' E.nx) (hs : swapsWithSole [tg] e pos.line Γ.X.env = pure false := by rfl) (hw : swappedStores [tg] e Γ.X.env = pure none := by rfl)
    (h1 : (assignEach [tg] Γ.X.env).map (·.2) = [assign tg Γ.X.env] := by rfl) : sd Γ (.Assign [tg] e pos) δ μ E := fun F σ H a =>
  ws_of (ps_asg pe_we pg_wg hs hw h1) (we_mono (h F σ H a) fun v H' ⟨F', d, μ', s, a', r, q⟩ => wg_mono (q F' σ H' v a' r) fun σ2 H2 z => z.up s)
theorem sd_set {i : Nat} {x : Str} {pos' : Pos} (hN : Γ.X.N.Nodup) (hi : Γ.X.N[i]? = some x) (h : ed Γ e δ μ fun d μ' => E.nx (δ.set i (some d)) μ') (hs : swapsWith e (some (.Name x pos')) pos.line Γ.X.env = pure false := by rfl)
    (hx : Loc Γ.X.env.scope x := by first | exact .inl rfl | exact .inr rfl) (hf : Γ.X.fn x = true ∨ Γ.X.env.scope.names.lookup x = some .local := by first | exact .inl rfl | exact .inr rfl | assumption) : sd Γ (.Assign [.Name x pos'] e pos) δ μ E := fun F σ H a =>
  ws_of (ps_set hN hi hx pe_we hs hf) (we_mono (h F σ H a) fun v H' ⟨F', d, μ', s, a', r, q⟩ => ⟨F', _, μ', s, a'.fr_set i r, q⟩)
/-- a cell is let go -/
theorem sds_freeze_lst {p : Addr} {ds : List D} {μ1 μ2 : Mu} {i : Nat} (hi : δ[i]? = some (some (.ref p))) (h : sds Γ rest (δ.set i (some (.lst ds))) (μ1 ++ μ2) E) : sds Γ rest δ (μ1 ++ (p, .lst ds) :: μ2) E := fun F σ H a => by
  obtain ⟨vs, h1, h2⟩ := a.sx.cells (p, .lst ds) (List.mem_append_right _ List.mem_cons_self)
  have b := a.freeze h1
  have sF : Same F (upd F p (.lst vs)) := same_upd (a.sx.off (p, .lst ds) (List.mem_append_right _ List.mem_cons_self))
  obtain ⟨v, e1, r⟩ := b.var hi
  rw [Dp] at r
  subst r
  have hl : i < σ.length := (List.getElem?_eq_some_iff.mp e1).1
  have c := b.fr_set i (v := .ref p) (d := .lst ds) (by rw [Dp]; exact ⟨p, vs, rfl, upd_same, h2.mono sF⟩)
  have e2 : σ.set i (some (.ref p)) = σ := by
    obtain ⟨_, e4⟩ := List.getElem?_eq_some_iff.mp e1
    rw [← e4]; exact List.set_getElem_self _
  rw [e2] at c
  exact wss_mono (h (upd F p (.lst vs)) σ H c) (En.up sF)
end
end PD
/-! PD3: operators, built-ins, methods over data. -/
namespace PD
open PySem PySem.Spec PyProof.Rows L2
section
variable {Γ : Ct} {δ : Dl} {μ : Mu} {Q : D → Mu → Prop} {x y : D}
theorem opd_of {f : Value → Value → Sem Value} {r : R2} (ho : OpR Γ.X f r) (h : ∀ F σ H vx vy, At Γ F δ μ σ H → Dp Γ.X.K F x vx → Dp Γ.X.K F y vy → r vx vy H (PostE Γ F δ σ Q)) : opd Γ f x y δ μ Q :=
  fun F σ H vx vy a r1 r2 pins s σ' v u I q1 q2 => ho pins s σ' H vx vy v u _ I q1 q2 (h F σ H vx vy a r1 r2)
theorem cld_of {f : Value} {xs : List D} {r : List V → Hp → VK → Prop} (ho : CallR Γ.X f r) (h : ∀ F σ H vs, At Γ F δ μ σ H → Dps Γ.X.K F xs vs → r vs H (PostE Γ F δ σ Q)) : cld Γ f xs δ μ Q :=
  fun F σ H vs a r1 pins s σ' us I q1 => ho pins s σ' H vs us _ I q1 (h F σ H vs a r1)
theorem und_of {f : Value → Sem Value} {r : V → Hp → VK → Prop} (ho : UnR Γ.X f r) (h : ∀ F σ H vx, At Γ F δ μ σ H → Dp Γ.X.K F x vx → r vx H (PostE Γ F δ σ Q)) : und Γ f x δ μ Q :=
  fun F σ H vx a r1 pins s σ' v I q1 => ho pins s σ' H vx v _ I q1 (h F σ H vx a r1)
theorem ixd_of {r : R2} (ho : IxR Γ.X r) (h : ∀ F σ H vx vy, At Γ F δ μ σ H → Dp Γ.X.K F x vx → Dp Γ.X.K F y vy → r vx vy H (PostE Γ F δ σ Q)) : ixd Γ x y δ μ Q :=
  fun F σ H vx vy a r1 r2 va sl pins s σ' v u I q1 q2 hs => ho va sl pins s σ' H vx vy v u _ I q1 q2 (h F σ H vx vy a r1 r2) hs
theorem mtd_of {id : String} {xs : List D} {r : V → List V → Hp → VK → Prop} (ho : MtR Γ.X id r) (h : ∀ F σ H vx vs, At Γ F δ μ σ H → Dp Γ.X.K F x vx → Dps Γ.X.K F xs vs → r vx vs H (PostE Γ F δ σ Q)) : mtd Γ id x xs δ μ Q :=
  fun F σ H vx vs a r1 r2 pins s σ' v us I q1 q2 => ho pins s σ' H vx vs v us _ I q1 q2 (h F σ H vx vs a r1 r2)
theorem dpI {K : PySem.W.Frag} {F : Hp} {i : Int} {v : V} (h : Dp K F (.int i) v) : v = .int i := by rw [Dp] at h; exact h
theorem dpB {K : PySem.W.Frag} {F : Hp} {i : Bool} {v : V} (h : Dp K F (.bl i) v) : v = .bl i := by rw [Dp] at h; exact h
theorem dpS {K : PySem.W.Frag} {F : Hp} {i : Str} {v : V} (h : Dp K F (.str i) v) : v = .str i := by rw [Dp] at h; exact h
theorem dpN {K : PySem.W.Frag} {F : Hp} {v : V} (h : Dp K F .non v) : v = .non := by rw [Dp] at h; exact h
theorem dpR {K : PySem.W.Frag} {F : Hp} {i : Addr} {v : V} (h : Dp K F (.ref i) v) : v = .ref i := by rw [Dp] at h; exact h
theorem dpL {K : PySem.W.Frag} {F : Hp} {ds : List D} {v : V} (h : Dp K F (.lst ds) v) : ∃ a vs, v = .ref a ∧ F a = some (.lst vs) ∧ Dps K F ds vs := by rw [Dp] at h; exact h
theorem dpRl {K : PySem.W.Frag} {F : Hp} {ds : List D} {v : V} (h : Dp K F (.rl ds) v) : ∃ a vs, v = .ref a ∧ SqL K F a vs ∧ Dps K F ds vs := by rw [Dp] at h; exact h
theorem dpT {K : PySem.W.Frag} {F : Hp} {ds : List D} {v : V} (h : Dp K F (.tup ds) v) : ∃ a vs, v = .ref a ∧ SqT K F a vs ∧ Dps K F ds vs := by rw [Dp] at h; exact h
theorem dpi {K : PySem.W.Frag} {F : Hp} {i : Int} : Dp K F (.int i) (.int i) := by rw [Dp]
theorem dpb {K : PySem.W.Frag} {F : Hp} {i : Bool} : Dp K F (.bl i) (.bl i) := by rw [Dp]
theorem dps {K : PySem.W.Frag} {F : Hp} {i : Str} : Dp K F (.str i) (.str i) := by rw [Dp]
theorem dpn {K : PySem.W.Frag} {F : Hp} : Dp K F .non .non := by rw [Dp]
theorem dpr {K : PySem.W.Frag} {F : Hp} {a : Addr} : Dp K F (.ref a) (.ref a) := by rw [Dp]
theorem dpl {K : PySem.W.Frag} {F : Hp} {a : Addr} {ds : List D} {vs : List V} (h : F a = some (.lst vs)) (r : Dps K F ds vs) : Dp K F (.lst ds) (.ref a) := by rw [Dp]; exact ⟨a, vs, rfl, h, r⟩
theorem dpt {K : PySem.W.Frag} {F : Hp} {a : Addr} {ds : List D} {vs : List V} (h : SqT K F a vs) (r : Dps K F ds vs) : Dp K F (.tup ds) (.ref a) := by rw [Dp]; exact ⟨a, vs, rfl, h, r⟩
theorem Dps.one {K : PySem.W.Frag} {F : Hp} {d : D} {vs : List V} (h : Dps K F [d] vs) : ∃ v, vs = [v] ∧ Dp K F d v := by
  obtain ⟨v, ws, rfl, h1, h2⟩ := h.uncons
  rw [h2.unnil]; exact ⟨v, rfl, h1⟩
theorem Dps.two {K : PySem.W.Frag} {F : Hp} {d e : D} {vs : List V} (h : Dps K F [d, e] vs) : ∃ v w, vs = [v, w] ∧ Dp K F d v ∧ Dp K F e w := by
  obtain ⟨v, ws, rfl, h1, h2⟩ := h.uncons
  obtain ⟨w, rfl, h3⟩ := h2.one; exact ⟨v, w, rfl, h1, h3⟩
/-! ### ints -/
theorem opd_I0 {f : Value → Value → Sem Value} {g : Int → Int → Int} {i j : Int} (ho : OpR Γ.X f (rI0 fun i j => .int (g i j))) (q : Q (.int (g i j)) μ) : opd Γ f (.int i) (.int j) δ μ Q := opd_of ho fun F σ H vx vy a r1 r2 => by
  rw [dpI r1, dpI r2]; exact ⟨i, j, rfl, rfl, PostE.here a dpi q⟩
theorem opd_I {f : Value → Value → Sem Value} {C : Int → Int → Prop} {g : Int → Int → Int} {i j : Int} (ho : OpR Γ.X f (rI C fun i j => .int (g i j))) (c : C i j) (q : Q (.int (g i j)) μ) : opd Γ f (.int i) (.int j) δ μ Q := opd_of ho fun F σ H vx vy a r1 r2 => by
  rw [dpI r1, dpI r2]; exact ⟨i, j, rfl, rfl, c, PostE.here a dpi q⟩
theorem opd_IB {f : Value → Value → Sem Value} {g : Int → Int → Bool} {i j : Int} (ho : OpR Γ.X f (rI0 fun i j => .bl (g i j))) (q : Q (.bl (g i j)) μ) : opd Γ f (.int i) (.int j) δ μ Q := opd_of ho fun F σ H vx vy a r1 r2 => by
  rw [dpI r1, dpI r2]; exact ⟨i, j, rfl, rfl, PostE.here a dpb q⟩
theorem opd_add {i j : Int} (q : Q (.int (i + j)) μ) : opd Γ (binaryOp .Add) (.int i) (.int j) δ μ Q := opd_I0 (g := fun i j => i + j) op_add q
theorem opd_sub {i j : Int} (q : Q (.int (i - j)) μ) : opd Γ (binaryOp .Sub) (.int i) (.int j) δ μ Q := opd_I0 (g := fun i j => i - j) op_sub q
theorem opd_mul {i j : Int} (c : CMul i j) (q : Q (.int (i * j)) μ) : opd Γ (binaryOp .Mult) (.int i) (.int j) δ μ Q := opd_I (g := fun i j => i * j) op_mul c q
theorem opd_mod {i j : Int} (c : 0 < j) (q : Q (.int (i % j)) μ) : opd Γ (binaryOp .Mod) (.int i) (.int j) δ μ Q := opd_I (g := fun i j => i % j) op_mod c q
theorem opd_fdiv {i j : Int} (c : 0 < j ∧ j < 1073741824) (q : Q (.int (i / j)) μ) : opd Γ (binaryOp .FloorDiv) (.int i) (.int j) δ μ Q := opd_I (g := fun i j => i / j) op_fdiv c q
theorem opd_pow {i j : Int} (c : 0 ≤ j ∧ j ≤ 1000000 ∧ i.natAbs < 2 ^ 64) (q : Q (.int (i ^ j.toNat)) μ) : opd Γ (binaryOp .Pow) (.int i) (.int j) δ μ Q := opd_I (g := fun i j => i ^ j.toNat) op_pow c q
theorem opd_lt {i j : Int} (q : Q (.bl (decide (i < j))) μ) : opd Γ (compareOp .Lt) (.int i) (.int j) δ μ Q := opd_IB (g := fun i j => decide (i < j)) op_lt q
theorem opd_le {i j : Int} (q : Q (.bl (decide (i ≤ j))) μ) : opd Γ (compareOp .LtE) (.int i) (.int j) δ μ Q := opd_IB (g := fun i j => decide (i ≤ j)) op_le q
theorem opd_gt {i j : Int} (q : Q (.bl (decide (j < i))) μ) : opd Γ (compareOp .Gt) (.int i) (.int j) δ μ Q := opd_IB (g := fun i j => decide (j < i)) op_gt q
theorem opd_ge {i j : Int} (q : Q (.bl (decide (j ≤ i))) μ) : opd Γ (compareOp .GtE) (.int i) (.int j) δ μ Q := opd_IB (g := fun i j => decide (j ≤ i)) op_ge q
theorem und_neg {i : Int} (q : Q (.int (-i)) μ) : und Γ (unaryOp .USub) (.int i) δ μ Q := und_of un_neg fun F σ H vx a r1 => by
  rw [dpI r1]; exact ⟨i, rfl, PostE.here a dpi q⟩
/-! ### == of scalars -/
theorem opd_eqI {i j : Int} (q : Q (.bl (decide (i = j))) μ) : opd Γ (compareOp .Eq) (.int i) (.int j) δ μ Q := opd_of op_eq fun F σ H vx vy a r1 r2 => by
  rw [dpI r1, dpI r2]
  refine ⟨rfl, PostE.here a (d := .bl _) dpb ?_⟩
  rw [dec_int]
  have e : (i == j) = decide (i = j) := rfl
  rw [e]; exact q
theorem opd_neI {i j : Int} (q : Q (.bl (!decide (i = j))) μ) : opd Γ (compareOp .NotEq) (.int i) (.int j) δ μ Q := opd_of op_ne fun F σ H vx vy a r1 r2 => by
  rw [dpI r1, dpI r2]
  refine ⟨rfl, PostE.here a (d := .bl _) dpb ?_⟩
  rw [dec_int]
  have e : (i == j) = decide (i = j) := rfl
  rw [e]; exact q
theorem opd_eqS {i j : Str} (q : Q (.bl (decide (i = j))) μ) : opd Γ (compareOp .Eq) (.str i) (.str j) δ μ Q := opd_of op_eq fun F σ H vx vy a r1 r2 => by
  rw [dpS r1, dpS r2]
  refine ⟨rfl, PostE.here a (d := .bl _) dpb ?_⟩
  have e : decide (V.str i = V.str j) = decide (i = j) := by
    by_cases h : i = j
    · subst h; simp
    · rw [decide_eq_false h, decide_eq_false fun z => h (V.str.inj z)]
  rw [e]; exact q
theorem opd_neS {i j : Str} (q : Q (.bl (!decide (i = j))) μ) : opd Γ (compareOp .NotEq) (.str i) (.str j) δ μ Q := opd_of op_ne fun F σ H vx vy a r1 r2 => by
  rw [dpS r1, dpS r2]
  refine ⟨rfl, PostE.here a (d := .bl _) dpb ?_⟩
  have e : decide (V.str i = V.str j) = decide (i = j) := by
    by_cases h : i = j
    · subst h; simp
    · rw [decide_eq_false h, decide_eq_false fun z => h (V.str.inj z)]
  rw [e]; exact q
/-! ### == of data -/
mutual
def D.py : D → PyData
  | .non => .none
  | .bl b => .bool b
  | .int i => .int i
  | .str x => .str x
  | .lst ds => .list (D.pys ds)
  | .rl ds => .list (D.pys ds)
  | .tup ds => .tuple (D.pys ds)
  | .ty _ => .dict []
  | .ref _ => .dict []
  | .obj _ _ _ => .dict []
  | .dK _ _ => .dict []
  | .slc _ _ _ => .dict []
def D.pys : List D → List PyData
  | [] => []
  | d :: ds => d.py :: D.pys ds
end
mutual
/-- what may be compared as data: texts in order -/
def D.ok : D → Bool
  | .non => true
  | .bl b => true
  | .int i => true
  | .str x => PyData.canLay0 (.str x)
  | .lst ds => D.oks ds
  | .rl ds => D.oks ds
  | .tup ds => D.oks ds
  | .ty _ => false
  | .ref _ => false
  | .obj _ _ _ => false
  | .dK _ _ => false
  | .slc _ _ _ => false
def D.oks : List D → Bool
  | [] => true
  | d :: ds => d.ok && D.oks ds
end
mutual
theorem D.ok_lay : ∀ {d : D}, d.ok = true → d.py.canLay0 = true
  | .non, _ => by rw [D.py, PyData.canLay0]
  | .bl _, _ => by rw [D.py, PyData.canLay0]
  | .int _, _ => by rw [D.py, PyData.canLay0]
  | .str _, h => by rw [D.ok] at h; rw [D.py]; exact h
  | .lst ds, h => by rw [D.ok] at h; rw [D.py, PyData.canLay0]; exact D.oks_lay h
  | .rl ds, h => by rw [D.ok] at h; rw [D.py, PyData.canLay0]; exact D.oks_lay h
  | .tup ds, h => by rw [D.ok] at h; rw [D.py, PyData.canLay0]; exact D.oks_lay h
  | .ty _, h => by rw [D.ok] at h; cases h
  | .ref _, h => by rw [D.ok] at h; cases h
  | .obj _ _ _, h => by rw [D.ok] at h; cases h
  | .dK _ _, h => by rw [D.ok] at h; cases h
  | .slc _ _ _, h => by rw [D.ok] at h; cases h
theorem D.oks_lay : ∀ {ds : List D}, D.oks ds = true → PyData.canLayAll0 (D.pys ds) = true
  | [], _ => by rw [D.pys, PyData.canLayAll0]
  | d :: ds, h => by
    rw [D.oks] at h
    obtain ⟨h1, h2⟩ := Bool.and_eq_true_iff.mp h
    rw [D.pys, PyData.canLayAll0, D.ok_lay h1, D.oks_lay h2]; rfl
end
mutual
theorem D.ok_dp {K : PySem.W.Frag} {F H : Hp} (s : Same F H) : ∀ {d : D} {v : V}, d.ok = true → Dp K F d v → L2.Dp K H v d.py
  | .non, v, _, r => by rw [dpN r, D.py]; exact .non
  | .bl _, v, _, r => by rw [dpB r, D.py]; exact .bl _
  | .int _, v, _, r => by rw [dpI r, D.py]; exact .int _
  | .str _, v, h, r => by rw [dpS r, D.py]; exact .str _
  | .lst ds, v, h, r => by
    obtain ⟨a, vs, rfl, h1, h2⟩ := dpL r
    rw [D.ok] at h; rw [D.py]
    exact .lst (.inl (.inl (s _ _ h1))) (D.oks_dp s h h2)
  | .rl ds, v, h, r => by
    obtain ⟨a, vs, rfl, h1, h2⟩ := dpRl r
    rw [D.ok] at h; rw [D.py]
    exact .lst (s.seq h1) (D.oks_dp s h h2)
  | .tup ds, v, h, r => by
    obtain ⟨a, vs, rfl, h1, h2⟩ := dpT r
    rw [D.ok] at h; rw [D.py]
    exact .tup (Same.sqT s h1) (D.oks_dp s h h2)
  | .ty _, _, h, _ => by rw [D.ok] at h; cases h
  | .ref _, _, h, _ => by rw [D.ok] at h; cases h
  | .obj _ _ _, _, h, _ => by rw [D.ok] at h; cases h
  | .dK _ _, _, h, _ => by rw [D.ok] at h; cases h
  | .slc _ _ _, _, h, _ => by rw [D.ok] at h; cases h
theorem D.oks_dp {K : PySem.W.Frag} {F H : Hp} (s : Same F H) : ∀ {ds : List D} {vs : List V}, D.oks ds = true → Dps K F ds vs → L2.DpAll K H vs (D.pys ds)
  | [], vs, _, r => by rw [r.unnil, D.pys]; exact .nil
  | d :: ds, vs, h, r => by
    obtain ⟨v, ws, rfl, r1, r2⟩ := r.uncons
    rw [D.oks] at h
    obtain ⟨h1, h2⟩ := Bool.and_eq_true_iff.mp h
    rw [D.pys]
    exact .cons (D.ok_dp s h1 r1) (D.oks_dp s h2 r2)
end
def eqD (x y : D) : Bool := PyData.eqv x.py y.py
theorem opd_neD (hu : Γ.X.A.units + 64 < cLine) (hx : x.ok = true) (hy : y.ok = true) (dx : x.py.depth ≤ 64) (dy : y.py.depth ≤ 64) (q : Q (.bl (!eqD x y)) μ) : opd Γ (compareOp .NotEq) x y δ μ Q := opd_of (op_neD hu) fun F σ H vx vy a r1 r2 =>
  ⟨x.py, y.py, D.ok_dp a.sx.sub hx r1, D.ok_dp a.sx.sub hy r2, by unfold SeqAt.shaped; rw [D.ok_lay hx, decide_eq_true dx]; rfl, by unfold SeqAt.shaped; rw [D.ok_lay hy, decide_eq_true dy]; rfl, PostE.here a dpb q⟩
/-! ### is None -/
def D.isN : D → Bool
  | .non => true
  | _ => false
theorem dp_isN {K : PySem.W.Frag} {F : Hp} {d : D} {v : V} (r : Dp K F d v) : decide (v = .non) = d.isN := by
  cases d with
  | non => rw [dpN r]; rfl
  | bl _ => rw [dpB r]; rfl
  | int _ => rw [dpI r]; rfl
  | str _ => rw [dpS r]; rfl
  | ref _ => rw [dpR r]; rfl
  | ty n => rw [Dp] at r; rw [r]; rfl
  | lst _ => obtain ⟨a, vs, rfl, _⟩ := dpL r; rfl
  | rl _ => obtain ⟨a, vs, rfl, _⟩ := dpRl r; rfl
  | tup _ => obtain ⟨a, vs, rfl, _⟩ := dpT r; rfl
  | obj _ _ _ => rw [Dp] at r; obtain ⟨a, dx, gs, rfl, _⟩ := r; rfl
  | dK _ _ => rw [Dp] at r; obtain ⟨a, dx, rfl, _⟩ := r; rfl
  | slc _ _ _ => rw [Dp] at r; obtain ⟨a, rfl, _⟩ := r; rfl
theorem opd_isN (q : Q (.bl x.isN) μ) : opd Γ (compareOp .Is) x .non δ μ Q := opd_of op_isN fun F σ H vx vy a r1 r2 => by
  rw [dpN r2]; refine ⟨rfl, PostE.here a (d := .bl _) dpb ?_⟩; rw [dp_isN r1]; exact q
theorem opd_notN (q : Q (.bl (!x.isN)) μ) : opd Γ (compareOp .IsNot) x .non δ μ Q := opd_of op_notN fun F σ H vx vy a r1 r2 => by
  rw [dpN r2]; refine ⟨rfl, PostE.here a (d := .bl _) dpb ?_⟩; rw [dp_isN r1]; exact q
/-! ### texts, lists, tuples put together -/
theorem opd_addS {i j : Str} (hl : i.length + j.length ≤ sizeLine) (q : Q (.str (i ++ j)) μ) : opd Γ (binaryOp .Add) (.str i) (.str j) δ μ Q := opd_of op_add_str fun F σ H vx vy a r1 r2 => by
  rw [dpS r1, dpS r2]; exact ⟨i, j, rfl, rfl, hl, PostE.here a dps q⟩
theorem opd_cat {xs ys : List D} (hl : xs.length + ys.length ≤ sizeLine) (q : Q (.lst (xs ++ ys)) μ) : opd Γ (binaryOp .Add) (.lst xs) (.lst ys) δ μ Q := opd_of op_cat fun F σ H vx vy a r1 r2 => by
  obtain ⟨p1, vs, rfl, h1, h2⟩ := dpL r1
  obtain ⟨p2, ws, rfl, h3, h4⟩ := dpL r2
  refine ⟨p1, p2, vs, ws, rfl, rfl, a.sx.sub _ _ h1, a.sx.sub _ _ h3, by rw [← h2.length, ← h4.length]; exact hl, fun p hp => ?_⟩
  have sF := same_upd (o := HO.lst (vs ++ ws)) (a.sx.sub.free hp)
  exact PostE.new a hp (dpl upd_same ((h2.append h4).mono sF)) q
/-! ### subscripts -/
theorem ixd_lst {xs : List D} {i : Int} {d : D} (h : atI xs i = some d) (q : Q d μ) : ixd Γ (.lst xs) (.int i) δ μ Q := ixd_of ix_list fun F σ H vx vy a r1 r2 => by
  obtain ⟨p1, vs, rfl, h1, h2⟩ := dpL r1
  rw [dpI r2]
  obtain ⟨j, e1, e2⟩ : ∃ j, ixN xs.length i = some j ∧ xs[j]? = some d := by
    unfold atI at h
    cases e : ixN xs.length i with
    | none => rw [e] at h; cases h
    | some j => rw [e] at h; exact ⟨j, rfl, h⟩
  obtain ⟨v, e3, r⟩ := h2.get e2
  exact ⟨p1, vs, i, v, rfl, rfl, .inl (.inl (a.sx.sub _ _ h1)), by unfold atI; rw [← h2.length, e1]; exact e3, PostE.here a r q⟩
theorem ixd_tup {xs : List D} {i : Int} {d : D} (h : atI xs i = some d) (q : Q d μ) : ixd Γ (.tup xs) (.int i) δ μ Q := ixd_of ix_tup fun F σ H vx vy a r1 r2 => by
  obtain ⟨p1, vs, rfl, h1, h2⟩ := dpT r1
  rw [dpI r2]
  obtain ⟨j, e1, e2⟩ : ∃ j, ixN xs.length i = some j ∧ xs[j]? = some d := by
    unfold atI at h
    cases e : ixN xs.length i with
    | none => rw [e] at h; cases h
    | some j => rw [e] at h; exact ⟨j, rfl, h⟩
  obtain ⟨v, e3, r⟩ := h2.get e2
  exact ⟨p1, vs, i, v, rfl, rfl, Same.sqT a.sx.sub h1, by unfold atI; rw [← h2.length, e1]; exact e3, PostE.here a r q⟩
/-- an owned list -/
theorem ixd_own {p : Addr} {xs : List D} {i : Int} {d : D} (hm : (p, Cell.lst xs) ∈ μ) (h : atI xs i = some d) (q : Q d μ) : ixd Γ (.ref p) (.int i) δ μ Q := ixd_of ix_list fun F σ H vx vy a r1 r2 => by
  rw [dpR r1, dpI r2]
  obtain ⟨vs, h1, h2⟩ := a.sx.cells _ hm
  obtain ⟨j, e1, e2⟩ : ∃ j, ixN xs.length i = some j ∧ xs[j]? = some d := by
    unfold atI at h
    cases e : ixN xs.length i with
    | none => rw [e] at h; cases h
    | some j => rw [e] at h; exact ⟨j, rfl, h⟩
  obtain ⟨v, e3, r⟩ := h2.get e2
  exact ⟨p, vs, i, v, rfl, rfl, .inl (.inl h1), by unfold atI; rw [← h2.length, e1]; exact e3, PostE.here a r q⟩
theorem sld_lst {xs : List D} {lo hi : Option Int} (q : Q (.lst ((xs.drop (HT.sIx xs.length 0 lo)).take (HT.sIx xs.length xs.length hi - HT.sIx xs.length 0 lo))) μ) : sld Γ (rSlL Γ.X.K) (.lst xs) lo hi δ μ Q := fun F σ H vx a r1 => by
  obtain ⟨p1, vs, rfl, h1, h2⟩ := dpL r1
  refine ⟨p1, vs, rfl, .inl (.inl (a.sx.sub _ _ h1)), fun p hp => ?_⟩
  have sF := same_upd (o := HO.lst (cutV vs lo hi)) (a.sx.sub.free hp)
  refine PostE.new a hp (dpl upd_same (Dps.mono sF ?_)) q
  unfold cutV
  rw [← h2.length]
  exact (h2.drop _).take _
theorem sld_rl {xs : List D} {lo hi : Option Int} (q : Q (.lst ((xs.drop (HT.sIx xs.length 0 lo)).take (HT.sIx xs.length xs.length hi - HT.sIx xs.length 0 lo))) μ) : sld Γ (rSlL Γ.X.K) (.rl xs) lo hi δ μ Q := fun F σ H vx a r1 => by
  obtain ⟨p1, vs, rfl, h1, h2⟩ := dpRl r1
  refine ⟨p1, vs, rfl, a.sx.sub.seq h1, fun p hp => ?_⟩
  have sF := same_upd (o := HO.lst (cutV vs lo hi)) (a.sx.sub.free hp)
  refine PostE.new a hp (dpl upd_same (Dps.mono sF ?_)) q
  unfold cutV
  rw [← h2.length]
  exact (h2.drop _).take _
theorem rSlL_mono (K : PySem.W.Frag) : ∀ x l u H Q Q', (∀ v H', Q v H' → Q' v H') → rSlL K x l u H Q → rSlL K x l u H Q' := fun x l u H Q Q' k h => by
  obtain ⟨a, xs, e, h1, h2⟩ := h
  exact ⟨a, xs, e, h1, fun p hp => k _ _ (h2 p hp)⟩
theorem sld_str {z : Str} {lo hi : Option Int} (hz : z.length ≤ sizeLine) (q : Q (.str (cutS z lo hi)) μ) : sld Γ rSlS (.str z) lo hi δ μ Q := fun F σ H vx a r1 => by
  rw [dpS r1]
  exact ⟨z, rfl, hz, PostE.here a dps q⟩
theorem rSlS_mono : ∀ x l u H Q Q', (∀ v H', Q v H' → Q' v H') → rSlS x l u H Q → rSlS x l u H Q' := fun x l u H Q Q' k h => by
  obtain ⟨a, e, h1, h2⟩ := h
  exact ⟨a, e, h1, k _ _ h2⟩
/-! ### built-ins -/
theorem cld_len_lst {xs : List D} (q : Q (.int xs.length) μ) : cld Γ (.builtin "len") [.lst xs] δ μ Q := cld_of call_len_seq fun F σ H vs a r0 => by
  obtain ⟨v, rfl, r⟩ := r0.one
  obtain ⟨p1, vs, rfl, h1, h2⟩ := dpL r
  refine ⟨p1, vs, rfl, .inl (.inl (.inl (a.sx.sub _ _ h1))), PostE.here a (d := .int _) dpi ?_⟩
  rw [← h2.length]; exact q
theorem cld_len_rl {xs : List D} (q : Q (.int xs.length) μ) : cld Γ (.builtin "len") [.rl xs] δ μ Q := cld_of call_len_seq fun F σ H vs a r0 => by
  obtain ⟨v, rfl, r⟩ := r0.one
  obtain ⟨p1, vs, rfl, h1, h2⟩ := dpRl r
  refine ⟨p1, vs, rfl, .inl (a.sx.sub.seq h1), PostE.here a (d := .int _) dpi ?_⟩
  rw [← h2.length]; exact q
theorem cld_len_tup {xs : List D} (q : Q (.int xs.length) μ) : cld Γ (.builtin "len") [.tup xs] δ μ Q := cld_of call_len_seq fun F σ H vs a r0 => by
  obtain ⟨v, rfl, r⟩ := r0.one
  obtain ⟨p1, vs, rfl, h1, h2⟩ := dpT r
  refine ⟨p1, vs, rfl, .inr (Same.sqT a.sx.sub h1), PostE.here a (d := .int _) dpi ?_⟩
  rw [← h2.length]; exact q
theorem cld_len_own {p : Addr} {xs : List D} (hm : (p, Cell.lst xs) ∈ μ) (q : Q (.int xs.length) μ) : cld Γ (.builtin "len") [.ref p] δ μ Q := cld_of call_len_seq fun F σ H vs a r0 => by
  obtain ⟨v, rfl, r⟩ := r0.one
  rw [dpR r]
  obtain ⟨vs, h1, h2⟩ := a.sx.cells _ hm
  refine ⟨p, vs, rfl, .inl (.inl (.inl h1)), PostE.here a (d := .int _) dpi ?_⟩
  rw [← h2.length]; exact q
theorem cld_len_str {z : Str} (hz : z.length ≤ sizeLine) (q : Q (.int z.length) μ) : cld Γ (.builtin "len") [.str z] δ μ Q := cld_of call_len_str fun F σ H vs a r0 => by
  obtain ⟨v, rfl, r⟩ := r0.one
  rw [dpS r]
  exact ⟨z, rfl, hz, PostE.here a dpi q⟩
theorem cld_int {i : Int} (q : Q (.int i) μ) : cld Γ (.type "int") [.int i] δ μ Q := cld_of call_int1 fun F σ H vs a r0 => by
  obtain ⟨v, rfl, r⟩ := r0.one
  rw [dpI r]; exact .inl ⟨i, rfl, PostE.here a dpi q⟩
theorem cld_abs {i : Int} (q : Q (.int (if i < 0 then -i else i)) μ) : cld Γ (.builtin "abs") [.int i] δ μ Q := cld_of call_abs fun F σ H vs a r0 => by
  obtain ⟨v, rfl, r⟩ := r0.one
  rw [dpI r]; exact ⟨i, rfl, PostE.here a dpi q⟩
theorem cld_tuple_lst {xs : List D} (q : Q (.tup xs) μ) : cld Γ (.type "tuple") [.lst xs] δ μ Q := cld_of call_tuple_of fun F σ H vs a r0 => by
  obtain ⟨v, rfl, r⟩ := r0.one
  obtain ⟨p1, vs, rfl, h1, h2⟩ := dpL r
  refine ⟨p1, vs, rfl, .inl ⟨.inl (.inl (a.sx.sub _ _ h1)), fun p hp => ?_⟩⟩
  exact PostE.new a hp (dpt (.inl (.inl upd_same)) (h2.mono (same_upd (a.sx.sub.free hp)))) q
theorem cld_tuple_tup {xs : List D} (q : Q (.tup xs) μ) : cld Γ (.type "tuple") [.tup xs] δ μ Q := cld_of call_tuple_of fun F σ H vs a r0 => by
  obtain ⟨v, rfl, r⟩ := r0.one
  obtain ⟨p1, vs, rfl, h1, h2⟩ := dpT r
  exact ⟨p1, vs, rfl, .inr ⟨Same.sqT a.sx.sub h1, PostE.here a (dpt h1 h2) q⟩⟩
theorem cld_tuple_own {p0 : Addr} {xs : List D} (hm : (p0, Cell.lst xs) ∈ μ) (q : Q (.tup xs) μ) : cld Γ (.type "tuple") [.ref p0] δ μ Q := cld_of call_tuple_of fun F σ H vs a r0 => by
  obtain ⟨v, rfl, r⟩ := r0.one
  rw [dpR r]
  obtain ⟨vs, h1, h2⟩ := a.sx.cells _ hm
  refine ⟨p0, vs, rfl, .inl ⟨.inl (.inl h1), fun p hp => ?_⟩⟩
  exact PostE.new a hp (dpt (.inl (.inl upd_same)) (h2.mono (same_upd (a.sx.sub.free hp)))) q
theorem cld_list_tup {xs : List D} (q : Q (.lst xs) μ) : cld Γ (.type "list") [.tup xs] δ μ Q := cld_of call_list_of fun F σ H vs a r0 => by
  obtain ⟨v, rfl, r⟩ := r0.one
  obtain ⟨p1, vs, rfl, h1, h2⟩ := dpT r
  refine ⟨p1, vs, rfl, .inr (Same.sqT a.sx.sub h1), fun p hp => ?_⟩
  exact PostE.new a hp (dpl upd_same (h2.mono (same_upd (a.sx.sub.free hp)))) q
theorem cld_list_lst {xs : List D} (q : Q (.lst xs) μ) : cld Γ (.type "list") [.lst xs] δ μ Q := cld_of call_list_of fun F σ H vs a r0 => by
  obtain ⟨v, rfl, r⟩ := r0.one
  obtain ⟨p1, vs, rfl, h1, h2⟩ := dpL r
  refine ⟨p1, vs, rfl, .inl (.inl (.inl (a.sx.sub _ _ h1))), fun p hp => ?_⟩
  exact PostE.new a hp (dpl upd_same (h2.mono (same_upd (a.sx.sub.free hp)))) q
theorem cld_all (hc : Γ.X.calm = true) {bs : List Bool} (q : Q (.bl (bs.all id)) μ) : cld Γ (.builtin "all") [.lst (bs.map .bl)] δ μ Q := cld_of (cr_all hc) fun F σ H vs a r0 => by
  obtain ⟨v, rfl, r⟩ := r0.one
  obtain ⟨p1, vs, rfl, h1, h2⟩ := dpL r
  rw [Dps.bls h2] at h1
  exact ⟨p1, bs, rfl, .inl (.inl (a.sx.sub _ _ h1)), PostE.here a dpb q⟩
theorem cld_any (hc : Γ.X.calm = true) {bs : List Bool} (q : Q (.bl (bs.any id)) μ) : cld Γ (.builtin "any") [.lst (bs.map .bl)] δ μ Q := cld_of (cr_any hc) fun F σ H vs a r0 => by
  obtain ⟨v, rfl, r⟩ := r0.one
  obtain ⟨p1, vs, rfl, h1, h2⟩ := dpL r
  rw [Dps.bls h2] at h1
  exact ⟨p1, bs, rfl, .inl (.inl (a.sx.sub _ _ h1)), PostE.here a dpb q⟩
end
/-! ### methods -/
theorem tyV_of {Γ : Ct} {F H : Hp} {δ : Dl} {μ : Mu} {σ : L2.St} {T : String} {x : D} {v : V} (a : At Γ F δ μ σ H) (r : Dp Γ.X.K F x v) (h : tyD T x μ) : tyV Γ.X.K T v H := by
  cases x with
  | str z => rw [dpS r]; exact h
  | lst ds =>
    obtain ⟨p, vs, rfl, h1, _⟩ := dpL r
    exact .inl ⟨h, vs, .inl (.inl (a.sx.sub _ _ h1))⟩
  | dK ks ds =>
    rw [Dp] at r
    obtain ⟨p, kvs, rfl, h1, _⟩ := r
    exact .inr (.inr (.inl ⟨h, .inl ⟨kvs, a.sx.sub _ _ h1⟩⟩))
  | ref p =>
    rw [dpR r]
    rcases h with ⟨ds, hm, e⟩ | ⟨ks, ds, hm, e⟩ | ⟨ks, ds, hm, e⟩ | ⟨S, n, hm, e⟩
    · obtain ⟨vs, h1, _⟩ := a.sx.cells _ hm
      exact .inl ⟨e, vs, .inl (.inl h1)⟩
    · obtain ⟨vs, h1, _⟩ := a.sx.cells _ hm
      exact .inr (.inr (.inl ⟨e, .inl ⟨vs, h1⟩⟩))
    · obtain ⟨vs, h1, _⟩ := a.sx.cells _ hm
      exact .inr (.inr (.inl ⟨e, .inr ⟨vs, h1⟩⟩))
    · exact .inr (.inr (.inr ⟨e, S, n, a.sx.cells _ hm⟩))
  | _ => exact h.elim
section
variable {Γ : Ct} {δ : Dl} {μ : Mu} {Q : D → Mu → Prop} {x y : D} {o e : Expr} {es : List Expr} {name : Str} {apos cpos : Pos} {T id : String}
theorem ed_bm (pa : PlainAttrs T) (slot : Slot T name id) (hty : typeOf (.builtin id) = pure (.type "method_descriptor")) (h : ed Γ o δ μ fun x μ1 => tyD T x μ1 ∧ ea Γ (e :: es) δ μ1 fun xs μ2 => mtd Γ id x xs δ μ2 Q)
    (hbase : attributeBase o name Γ.X.env (eval o Γ.X.env) = eval o Γ.X.env := by with_unfolding_all rfl)
    (hfew : ((backTo cpos (starEach (e :: es) Γ.X.env)).all (fun x => !x.1) && (backToKw cpos (keywordEach [] Γ.X.env)).all (fun x => x.1.isSome)
      && decide ((e :: es).length + ([] : List Keyword).length + (if ([] : List Keyword).isEmpty then 0 else 1) < 30)) = true := by with_unfolding_all rfl)
    (hline : (apos.endLine == cpos.line) = true := by with_unfolding_all rfl) (hs : starEach (e :: es) Γ.X.env = (false, eval e Γ.X.env) :: starEach es Γ.X.env := by with_unfolding_all rfl) (hplain : (backTo cpos (starEach es Γ.X.env)).any (·.1) = false := by with_unfolding_all rfl) :
    ed Γ (.Call (.Attribute o name apos) (e :: es) [] cpos) δ μ Q := fun F σ H at_ =>
  we_of (pe_bm pa slot hty rmf_ok pe_we pa_wa hbase hfew hline hs hplain) (we_mono (h F σ H at_) fun v H1 ⟨F1, d1, μ1, s1, h1, r1, ty, q1⟩ => ⟨tyV_of h1 r1 ty,
    wa_mono (q1 F1 σ H1 h1) fun vs H2 ⟨F2, ds, μ2, s2, h2, r2, q2⟩ => rmf_mono (q2 F2 σ H2 v vs h2 (r1.mono s2) r2) fun v H' z => PostE.up (s1.trans s2) z⟩)
theorem ed_bm0 (pa : PlainAttrs T) (slot : Slot T name id) (hty : typeOf (.builtin id) = pure (.type "method_descriptor")) (h : ed Γ o δ μ fun x μ1 => tyD T x μ1 ∧ mtd Γ id x [] δ μ1 Q)
    (hbase : attributeBase o name Γ.X.env (eval o Γ.X.env) = eval o Γ.X.env := by with_unfolding_all rfl) (hline : (apos.endLine == cpos.line) = true := by with_unfolding_all rfl) :
    ed Γ (.Call (.Attribute o name apos) [] [] cpos) δ μ Q := fun F σ H at_ =>
  we_of (pe_bm0 pa slot hty rmf_ok pe_we hbase hline) (we_mono (h F σ H at_) fun v H1 ⟨F1, d1, μ1, s1, h1, r1, ty, q1⟩ => ⟨tyV_of h1 r1 ty, rmf_mono (q1 F1 σ H1 v [] h1 r1 Dps.nil) fun v H' z => PostE.up s1 z⟩)
theorem mem_mid {α : Type} {a : α} {l1 l2 : List α} : a ∈ l1 ++ a :: l2 := List.mem_append_right _ List.mem_cons_self
/-- xs.append(d), xs owned -/
theorem mtd_append {p : Addr} {xs : List D} {d : D} {μ1 μ2 : Mu} (hl : xs.length < sizeLine) (q : Q .non (μ1 ++ (p, .lst (xs ++ [d])) :: μ2)) : mtd Γ "list.append" (.ref p) [d] δ (μ1 ++ (p, .lst xs) :: μ2) Q := mtd_of mt_append fun F σ H vx vs a r1 r2 => by
  rw [dpR r1]
  obtain ⟨v, rfl, r3⟩ := r2.one
  obtain ⟨ws, h1, h2⟩ := a.sx.cells (p, .lst xs) mem_mid
  exact ⟨p, ws, v, rfl, rfl, h1, by rw [← h2.length]; exact hl, F, .non, _, Same.refl F, a.put (c' := .lst (xs ++ [d])) ⟨_, upd_same, h2.append (Dps.cons r3 Dps.nil)⟩, dpn, q⟩
/-- xs.pop(), xs owned -/
theorem mtd_pop {p : Addr} {xs : List D} {d : D} {μ1 μ2 : Mu} (hd : xs[xs.length - 1]? = some d) (q : Q d (μ1 ++ (p, .lst xs.dropLast) :: μ2)) : mtd Γ "list.pop" (.ref p) [] δ (μ1 ++ (p, .lst xs) :: μ2) Q := mtd_of mt_pop fun F σ H vx vs a r1 r2 => by
  rw [dpR r1, r2.unnil]
  obtain ⟨ws, h1, h2⟩ := a.sx.cells (p, .lst xs) mem_mid
  obtain ⟨v, e, r⟩ := h2.get hd
  rw [h2.length] at e
  exact ⟨p, ws, v, rfl, rfl, h1, e, F, d, _, Same.refl F, a.put (c' := .lst xs.dropLast) ⟨_, upd_same, h2.dropLast⟩, r, q⟩
/-! ### xs[i] = d, xs owned -/
theorem gd_setL {o i : Expr} {pos : Pos} {v : D} {Q : Dl → Mu → Prop} (h : ed Γ o δ μ fun x μ1 => ed Γ i δ μ1 fun y μ2 => ∃ p k j xs μa μb, x = .ref p ∧ y = .int k ∧ μ2 = μa ++ (p, .lst xs) :: μb ∧ ixN xs.length k = some j ∧ Q δ (μa ++ (p, .lst (xs.set j v)) :: μb))
    (ha : ∀ v, assign (.Subscript o i pos) Γ.X.env v = (do
      let ov ← holding [v] (eval o Γ.X.env)
      let iv ← holding [v, ov] (eval i Γ.X.env)
      standAt pos
      holding [v, ov, iv] (setItem ov iv v)
      release [v, ov, iv] []) := by intro _; rfl) : gd Γ (.Subscript o i pos) v δ μ Q := fun F σ H vv at_ rv => by
  refine wg_of (pg_sub pe_we pe_we set_list ha) (we_mono (h F σ H at_) fun x H1 ⟨F1, d1, μ1, s1, h1, r1, q1⟩ => we_mono (q1 F1 σ H1 h1) fun y H2 ⟨F2, d2, μ2, s2, h2, r2, p, k, j, xs, μa, μb, e1, e2, e3, e4, q2⟩ => ?_)
  subst e1 e2 e3
  rw [dpR r1, dpI r2]
  obtain ⟨ws, g1, g2⟩ := h2.sx.cells (p, .lst xs) mem_mid
  exact ⟨p, ws, k, j, rfl, rfl, g1, by rw [← g2.length]; exact e4, F2, δ, _, s1.trans s2, h2.put (c' := .lst (xs.set j v)) ⟨_, upd_same, g2.set j (rv.mono (s1.trans s2))⟩, q2⟩
end
end PD
/-! PD4: what is walked, loops, comprehensions. -/
namespace PD
open PySem PySem.Spec PyProof.Rows L2
/-! ### a later start -/
theorem wofD_here {K : PySem.W.Frag} {F0 F H0 H : Hp} {μ0 μ : Mu} {W : XD} (st : Step F0 μ0 H0 F μ H) : ∀ c d σ H', WofD K F μ H W c d σ H' → WofD K F0 μ0 H0 W c d σ H' := fun c d σ H' h => by
  obtain ⟨F2, μ2, δ, ns, ds, s, x⟩ := h; exact ⟨F2, μ2, δ, ns, ds, st.trans s, x⟩
def Ct.here (Γ : Ct) {F H : Hp} {μ : Mu} (st : Step Γ.F0 Γ.μ0 Γ.H0 F μ H) : Ct := ⟨Γ.X, F, μ, H, Γ.W, Γ.nn, Γ.tk.imp (wofD_here st), Γ.po⟩
section
variable {Γ : Ct} {F F' F2 H H' H2 : Hp} {δ δ' : Dl} {μ μ' : Mu} {σ σ' : L2.St}
theorem At.here (a : At Γ F δ μ σ H) : At (Γ.here a.st) F δ μ σ H := ⟨Step.refl _ _ _, a.sx, a.fr⟩
theorem At.back {st : Step Γ.F0 Γ.μ0 Γ.H0 F μ H} (a : At (Γ.here st) F2 δ' μ' σ' H2) : At Γ F2 δ' μ' σ' H2 := ⟨st.trans a.st, a.sx, a.fr⟩
theorem At.updFree (a : At Γ F δ μ σ H) {p : Addr} {o : HO} (h0 : Γ.H0 p = none ∨ p ∈ dom Γ.μ0) (hF : F p = none) (hμ : p ∉ dom μ) : At Γ F δ μ σ (upd H p o) := by
  refine ⟨⟨a.st.ext, fun b u h hn => ?_, a.st.new, a.st.cell⟩, ⟨fun b u h => ?_, a.sx.off, a.sx.nd, fun c hc => (a.sx.cells c hc).mono (Same.refl F) (upd_ne fun e => hμ (by rw [← e]; exact List.mem_map.mpr ⟨c, hc, rfl⟩))⟩, a.fr⟩
  · have hb : b ≠ p := fun z => by
      rcases h0 with q | q
      · rw [z, q] at h; cases h
      · exact hn (by rw [z]; exact q)
    rw [upd_ne hb]; exact a.st.keep b u h hn
  · rw [upd_ne (fun z => by rw [z, hF] at h; cases h)]; exact a.sx.sub _ _ h
end
/-! ### what is walked -/
structure ItOk (K : PySem.W.Frag) (J : It) (ds : List D) (S : Mu → Prop) (F1 : Hp) : Prop where
  go : ∀ (Γ : Ct), Γ.X.K = K → ∀ i F δ μ σ H, Same F1 F → At Γ F δ μ σ H → S μ → ∀ d, ds[i]? = some d → J.go i H ∧ ∀ x H', J.yld i H x H' → ∃ F', Same F F' ∧ At Γ F' δ μ σ H' ∧ Dp K F' d x
  stop : ∀ (Γ : Ct), Γ.X.K = K → ∀ i F δ μ σ H, Same F1 F → At Γ F δ μ σ H → S μ → ds.length ≤ i → J.stop i H
def eid (Γ : Ct) (tg iter : Expr) (δ : Dl) (μ : Mu) (R : List D → (Mu → Prop) → Mu → Prop) : Prop := ∀ F σ H, At Γ F δ μ σ H → wi Γ.X tg iter σ H fun J H1 => ∃ F1 ds S μ1, Same F F1 ∧ At Γ F1 δ μ1 σ H1 ∧ ItOk Γ.X.K J ds S F1 ∧ R ds S μ1
/-- pyIter of a value -/
def itf (X : Cx) (tg : Expr) (x : V) (H : Hp) (R : It → Hp → Prop) : Prop := ∀ (pins : List (Addr × Obj)) (s : Shared) (σ : L2.St) (v : Value), Inv X pins σ H s → RelV x v → wpAny (model X.prog X.w) X.A (pyIter v) (PIE X pins σ tg R) X.xe s
theorem itf_list {X : Cx} {tg : Expr} {a : Addr} {xs : List V} {H : Hp} {R : It → Hp → Prop} (hq : SqL X.K H a xs) (q : R (Itl X.K a) H) : itf X tg (.ref a) H R := fun pins s σ v I1 r1 => by
  cases r1
  obtain ⟨its, rv, p, hz⟩ := I1.list hq
  refine wpAny_pyIter_list p.isList ?_
  refine ⟨s.heap.objs.size, [s.heap.objs.size], _, _, H, rfl, I1.kept (t' := s.toks) fun b o e => Heap.get?_push_of_some _ e, turn_list a _, ⟨_, Heap.get?_push_size _ rfl, rfl, rfl⟩, fun b hb => ?_, q⟩
  have e : b = s.heap.objs.size := by simpa using hb
  subst e
  exact I1.fpOk (Nat.le_refl _) (I1.hok.fresh (Nat.le_refl _))
theorem itf_tup {X : Cx} {tg : Expr} {a : Addr} {xs : List V} {H : Hp} {R : It → Hp → Prop} (hq : SqT X.K H a xs) (q : R (Itt X.K a) H) : itf X tg (.ref a) H R := fun pins s σ v I1 r1 => by
  cases r1
  obtain ⟨its, rv, p, hz⟩ := I1.tuple hq
  refine wpAny_pyIter_tuple (show s.heap.IsTuple a its.toArray from p) ?_
  refine ⟨s.heap.objs.size, [s.heap.objs.size], _, _, H, rfl, I1.kept (t' := s.toks) fun b o e => Heap.get?_push_of_some _ e, turn_tuple a _, ⟨_, Heap.get?_push_size _ rfl, rfl, rfl⟩, fun b hb => ?_, q⟩
  have e : b = s.heap.objs.size := by simpa using hb
  subst e
  exact I1.fpOk (Nat.le_refl _) (I1.hok.fresh (Nat.le_refl _))
theorem itf_mono {X : Cx} {tg : Expr} {x : V} {H : Hp} {R R' : It → Hp → Prop} (h : itf X tg x H R) (k : ∀ J H', R J H' → R' J H') : itf X tg x H R' := fun pins s σ v I r =>
  thn (h pins s σ v I r) fun itv s2 ⟨it, fp, tn, J, H', e, I2, T, st, f, r⟩ => ⟨it, fp, tn, J, H', e, I2, T, st, f, k J H' r⟩
def PostI (Γ : Ct) (F : Hp) (δ : Dl) (σ : L2.St) (R : List D → (Mu → Prop) → Mu → Prop) : It → Hp → Prop := fun J H1 => ∃ F1 ds S μ1, Same F F1 ∧ At Γ F1 δ μ1 σ H1 ∧ ItOk Γ.X.K J ds S F1 ∧ R ds S μ1
theorem PostI.up {Γ : Ct} {F F' : Hp} {δ : Dl} {σ : L2.St} {R : List D → (Mu → Prop) → Mu → Prop} (e : Same F F') {J : It} {H1 : Hp} (h : PostI Γ F' δ σ R J H1) : PostI Γ F δ σ R J H1 := by
  obtain ⟨F1, ds, S, μ1, s, x⟩ := h; exact ⟨F1, ds, S, μ1, e.trans s, x⟩
def itd (Γ : Ct) (tg : Expr) (x : D) (δ : Dl) (μ : Mu) (R : List D → (Mu → Prop) → Mu → Prop) : Prop := ∀ F σ H v, At Γ F δ μ σ H → Dp Γ.X.K F x v → itf Γ.X tg v H (PostI Γ F δ σ R)
section
variable {Γ : Ct} {tg iter : Expr} {δ : Dl} {μ : Mu} {R : List D → (Mu → Prop) → Mu → Prop}
theorem pi_itf {X : Cx} : PI X tg iter (fun σ H R => we X iter σ H fun x H1 => itf X tg x H1 R) := ⟨fun pins s σ H R I h => thn (h pins s I) fun v s1 ⟨x, H1, I1, r1, q1⟩ => q1 pins s1 σ v I1 r1⟩
theorem eid_of (h : ed Γ iter δ μ fun d μ1 => itd Γ tg d δ μ1 R) : eid Γ tg iter δ μ R := fun F σ H a =>
  wi_of pi_itf (we_mono (h F σ H a) fun v H1 ⟨F1, d, μ1, s1, a1, r1, q1⟩ => itf_mono (q1 F1 σ H1 v a1 r1) fun J H' z => PostI.up s1 z)
theorem itOk_list {K : PySem.W.Frag} {F : Hp} {a : Addr} {vs : List V} {ds : List D} (h : F a = some (.lst vs)) (r : Dps K F ds vs) : ItOk K (Itl K a) ds (fun _ => True) F where
  go := fun Γ hK i F2 δ μ σ H s a2 _ d hd => by
    have hl : SqL K H a vs := .inl (.inl (a2.sx.sub _ _ (s _ _ h)))
    obtain ⟨v, e1, r1⟩ := (r.mono s).get hd
    refine ⟨⟨vs, v, hl, e1⟩, fun x H' y => ?_⟩
    obtain ⟨e2, y⟩ := y
    rw [e2]
    have e3 := y vs hl
    rw [e1] at e3
    rw [← Option.some.inj e3]
    exact ⟨F2, Same.refl _, a2, r1⟩
  stop := fun Γ hK i F2 δ μ σ H s a2 _ hi => ⟨vs, .inl (.inl (a2.sx.sub _ _ (s _ _ h))), by rw [← r.length]; exact hi⟩
theorem itOk_rl {K : PySem.W.Frag} {F : Hp} {a : Addr} {vs : List V} {ds : List D} (h : SqL K F a vs) (r : Dps K F ds vs) : ItOk K (Itl K a) ds (fun _ => True) F where
  go := fun Γ hK i F2 δ μ σ H s a2 _ d hd => by
    have hl : SqL K H a vs := a2.sx.sub.seq (s.seq h)
    obtain ⟨v, e1, r1⟩ := (r.mono s).get hd
    refine ⟨⟨vs, v, hl, e1⟩, fun x H' y => ?_⟩
    obtain ⟨e2, y⟩ := y
    rw [e2]
    have e3 := y vs hl
    rw [e1] at e3
    rw [← Option.some.inj e3]
    exact ⟨F2, Same.refl _, a2, r1⟩
  stop := fun Γ hK i F2 δ μ σ H s a2 _ hi => ⟨vs, a2.sx.sub.seq (s.seq h), by rw [← r.length]; exact hi⟩
theorem itOk_tup {K : PySem.W.Frag} {F : Hp} {a : Addr} {vs : List V} {ds : List D} (h : SqT K F a vs) (r : Dps K F ds vs) : ItOk K (Itt K a) ds (fun _ => True) F where
  go := fun Γ hK i F2 δ μ σ H s a2 _ d hd => by
    have hl : SqT K H a vs := Same.sqT a2.sx.sub (Same.sqT s h)
    obtain ⟨v, e1, r1⟩ := (r.mono s).get hd
    refine ⟨⟨vs, v, hl, e1⟩, fun x H' y => ?_⟩
    obtain ⟨e2, y⟩ := y
    rw [e2]
    have e3 := y vs hl
    rw [e1] at e3
    rw [← Option.some.inj e3]
    exact ⟨F2, Same.refl _, a2, r1⟩
  stop := fun Γ hK i F2 δ μ σ H s a2 _ hi => ⟨vs, Same.sqT a2.sx.sub (Same.sqT s h), by rw [← r.length]; exact hi⟩
theorem itOk_own {K : PySem.W.Frag} {F : Hp} {a : Addr} {ds : List D} : ItOk K (Itl K a) ds (fun μ => (a, Cell.lst ds) ∈ μ) F where
  go := fun Γ hK i F2 δ μ σ H s a2 hm d hd => by
    subst hK
    obtain ⟨vs, h1, r⟩ := a2.sx.cells _ hm
    have hl : SqL Γ.X.K H a vs := .inl (.inl h1)
    obtain ⟨v, e1, r1⟩ := r.get hd
    refine ⟨⟨vs, v, hl, e1⟩, fun x H' y => ?_⟩
    obtain ⟨e2, y⟩ := y
    rw [e2]
    have e3 := y vs hl
    rw [e1] at e3
    rw [← Option.some.inj e3]
    exact ⟨F2, Same.refl _, a2, r1⟩
  stop := fun Γ hK i F2 δ μ σ H s a2 hm hi => by
    subst hK
    obtain ⟨vs, h1, r⟩ := a2.sx.cells _ hm
    exact ⟨vs, .inl (.inl h1), by rw [← r.length]; exact hi⟩
theorem itd_lst {ds : List D} (q : R ds (fun _ => True) μ) : itd Γ tg (.lst ds) δ μ R := fun F σ H v a r => by
  obtain ⟨p, vs, rfl, h1, h2⟩ := dpL r
  exact itf_list (.inl (.inl (a.sx.sub _ _ h1))) ⟨F, ds, _, μ, Same.refl F, a, itOk_list h1 h2, q⟩
theorem itd_rl {ds : List D} (q : R ds (fun _ => True) μ) : itd Γ tg (.rl ds) δ μ R := fun F σ H v a r => by
  obtain ⟨p, vs, rfl, h1, h2⟩ := dpRl r
  exact itf_list (a.sx.sub.seq h1) ⟨F, ds, _, μ, Same.refl F, a, itOk_rl h1 h2, q⟩
theorem itd_tup {ds : List D} (q : R ds (fun _ => True) μ) : itd Γ tg (.tup ds) δ μ R := fun F σ H v a r => by
  obtain ⟨p, vs, rfl, h1, h2⟩ := dpT r
  exact itf_tup (Same.sqT a.sx.sub h1) ⟨F, ds, _, μ, Same.refl F, a, itOk_tup h1 h2, q⟩
/-- range(n) -/
theorem itOk_range {K : PySem.W.Frag} {F : Hp} {lo : Int} {n : Nat} : ItOk K (Itr lo n) ((List.range n).map fun i : Nat => D.int (lo + i)) (fun _ => True) F where
  go := fun Γ hK i F2 δ μ σ H s a2 _ d hd => by
    rw [List.getElem?_map] at hd
    cases e : (List.range n)[i]? with
    | none => rw [e] at hd; cases hd
    | some j =>
      rw [e] at hd
      have hi : i < n := by
        have := (List.getElem?_eq_some_iff.mp e).1
        rw [List.length_range] at this; exact this
      have ej : j = i := by
        rw [List.getElem?_range hi] at e
        exact (Option.some.inj e).symm
      subst ej
      refine ⟨hi, fun x H' y => ?_⟩
      obtain ⟨e2, y⟩ := y
      rw [e2, y, ← Option.some.inj hd]
      exact ⟨F2, Same.refl _, a2, dpi⟩
  stop := fun Γ hK i F2 δ μ σ H s a2 _ hi => by
    rw [List.length_map, List.length_range] at hi; exact hi
theorem eid_range {e : Expr} {p pos : Pos} (hm : Γ.X.mg "range" = none) (h : ea Γ [e] δ μ fun ds μ1 => ∃ n : Int, ds = [.int n] ∧ n < 2 ^ 62 ∧ -(2 ^ 62) ≤ n ∧ R ((List.range n.toNat).map fun i : Nat => D.int (0 + i)) (fun _ => True) μ1)
    (hg : Gl Γ.X "range" := by rfl) (hs : starEach [e] Γ.X.env = [(false, eval e Γ.X.env)] := by rfl) : eid Γ tg (.Call (.Name "range" p) [e] [] pos) δ μ R := fun F σ H a =>
  wi_of (pi_range1 hg hm pa_wa hs) (wa_mono (h F σ H a) fun vs H1 ⟨F1, ds, μ1, s1, a1, r1, n, e1, h1, h2, q⟩ => by
    subst e1
    obtain ⟨v, rfl, r2⟩ := r1.one
    rw [dpI r2]
    exact ⟨n, rfl, h2, h1, F1, _, _, μ1, s1, a1, itOk_range, q⟩)
theorem eid_range2 {e e2 : Expr} {p pos : Pos} (hm : Γ.X.mg "range" = none) (h : ea Γ [e, e2] δ μ fun ds μ1 => ∃ i n : Int, ds = [.int i, .int n] ∧ (-(2 ^ 62) ≤ i ∧ i < 2 ^ 62 ∧ -(2 ^ 62) ≤ n ∧ n < 2 ^ 62) ∧ R ((List.range (n - i).toNat).map fun k : Nat => D.int (i + k)) (fun _ => True) μ1)
    (hg : Gl Γ.X "range" := by rfl) (hs : starEach [e, e2] Γ.X.env = [(false, eval e Γ.X.env), (false, eval e2 Γ.X.env)] := by rfl) (hs2 : starEach [e2] Γ.X.env = [(false, eval e2 Γ.X.env)] := by rfl) : eid Γ tg (.Call (.Name "range" p) [e, e2] [] pos) δ μ R := fun F σ H a =>
  wi_of (pi_range2 hg hm pa_wa hs hs2) (wa_mono (h F σ H a) fun vs H1 ⟨F1, ds, μ1, s1, a1, r1, i, n, e1, h1, q⟩ => by
    subst e1
    obtain ⟨v, w, rfl, r2, r3⟩ := r1.two
    rw [dpI r2, dpI r3]
    exact ⟨i, n, rfl, h1, F1, _, _, μ1, s1, a1, itOk_range, q⟩)
/-- enumerate(a list) -/
def enumD (ds : List D) : List D := ds.zipIdx.map fun p => .tup [.int (p.2 : Nat), p.1]
theorem enumD_get {ds : List D} {i : Nat} {d : D} (h : (enumD ds)[i]? = some d) : ∃ e, ds[i]? = some e ∧ d = .tup [.int (i : Nat), e] := by
  unfold enumD at h
  rw [List.getElem?_map, List.getElem?_zipIdx] at h
  cases q : ds[i]? with
  | none => rw [q] at h; cases h
  | some e =>
    rw [q] at h
    refine ⟨e, rfl, ?_⟩
    have := Option.some.inj h
    rw [← this]
    show D.tup [.int ((0 + i : Nat) : Int), e] = _
    rw [Nat.zero_add]
theorem enumD_len {ds : List D} : (enumD ds).length = ds.length := by unfold enumD; rw [List.length_map, List.length_zipIdx]
theorem itOk_enum {K : PySem.W.Frag} {F : Hp} {a : Addr} {ds : List D} {S : Mu → Prop} (base : ItOk K (Itl K a) ds S F) : ItOk K (Ite K a) (enumD ds) S F where
  go := fun Γ hK i F2 δ μ σ H s a2 hS d hd => by
    obtain ⟨e, he, rfl⟩ := enumD_get hd
    obtain ⟨⟨xs, x, h1, h2⟩, g⟩ := base.go Γ hK i F2 δ μ σ H s a2 hS e he
    refine ⟨⟨xs, x, h1, h2⟩, fun v H' y => ?_⟩
    obtain ⟨T, x', rfl, hT, rfl, y⟩ := y
    obtain ⟨F3, s3, a3, r3⟩ := g x' H ⟨rfl, y⟩
    have sF := same_upd (o := HO.tup [.int (i : Nat), x']) (a3.sx.sub.free hT)
    exact ⟨upd F3 T (.tup [.int (i : Nat), x']), s3.trans sF, a3.pers _ hT, dpt (.inl (.inl upd_same)) (Dps.cons dpi (Dps.cons (r3.mono sF) Dps.nil))⟩
  stop := fun Γ hK i F2 δ μ σ H s a2 hS hi => base.stop Γ hK i F2 δ μ σ H s a2 hS (by rw [enumD_len] at hi; exact hi)
end
/-! ### for -/
section
variable {Γ : Ct} {tg iter : Expr} {body : List Stmt} {δ : Dl} {μ : Mu} {E : En} {pos : Pos}
theorem sd_for (hc : Γ.X.calm = true) (h : eid Γ tg iter δ μ fun ds S μ1 => ∃ I : Nat → Dl → Mu → Prop, I 0 δ μ1 ∧ (∀ i δ' μ', i ≤ ds.length → I i δ' μ' → S μ') ∧
      (∀ i d δ' μ', ds[i]? = some d → I i δ' μ' → gd Γ tg d δ' μ' fun δ2 μ2 => sds Γ body δ2 μ2 { E with nx := I (i + 1), ct := I (i + 1), bk := E.nx }) ∧ ∀ δ' μ', I ds.length δ' μ' → E.nx δ' μ')
    (hs : ∀ x, foldedSetIterable iter Γ.X.env x = pure x := by intro _; rfl) : sd Γ (.For tg iter body [] pos) δ μ E := fun F σ H a => by
  refine ws_of (ps_for Γ.po hc pi_wi pg_wg pss_wss hs) (wi_mono (h F σ H a) fun J H1 ⟨F1, ds, S, μ1, s1, a1, ok, I, h0, hS, hb, hd⟩ => ?_)
  refine ⟨fun i m σ' H' => m = ds.length - i ∧ i ≤ ds.length ∧ ∃ F' δ' μ', Same F1 F' ∧ At Γ F' δ' μ' σ' H' ∧ I i δ' μ', ⟨ds.length, by simp, Nat.zero_le _, F1, δ, μ1, Same.refl _, a1, h0⟩, ?_⟩
  rintro i m σ' H' ⟨rfl, hi, F', δ', μ', s', a', hI⟩
  by_cases hlt : i < ds.length
  · have e : ds[i]? = some ds[i] := List.getElem?_eq_getElem hlt
    obtain ⟨g1, g2⟩ := ok.go Γ rfl i F' δ' μ' σ' H' s' a' (hS i δ' μ' hi hI) _ e
    refine .inr ⟨g1, PostN Γ F1 (I (i + 1)), fun σ2 H2 ⟨F2, δ2, μ2, s2, a2, q2⟩ => ⟨ds.length - (i + 1), by omega, rfl, hlt, F2, δ2, μ2, s2, a2, q2⟩, fun x H2 y => ?_⟩
    obtain ⟨F2, s2, a2, r2⟩ := g2 x H2 y
    refine wg_mono (hb i _ δ' μ' e hI F2 σ' H2 x a2 r2) fun σ3 H3 ⟨F3, δ3, μ3, s3, a3, q3⟩ => ?_
    exact wss_mono (q3 F3 σ3 H3 a3) ⟨fun _ _ z => z.up ((s'.trans s2).trans s3), fun _ _ z => z.up ((s1.trans (s'.trans s2)).trans s3), fun _ _ z => z.up ((s1.trans (s'.trans s2)).trans s3), fun _ _ z => z.up ((s'.trans s2).trans s3)⟩
  · have e : i = ds.length := by omega
    subst e
    exact .inl ⟨ok.stop Γ rfl _ F' δ' μ' σ' H' s' a' (hS _ δ' μ' hi hI) (Nat.le_refl _), F', δ', μ', s1.trans s', a', hd _ _ hI⟩
/-- while, by an invariant and a measure of the state -/
theorem sd_while {c : Expr} (I : Nat → Dl → Mu → Prop) (m0 : Nat) (h0 : I m0 δ μ) (h : ∀ m δ' μ', I m δ' μ' → et Γ c δ' μ' fun b μ2 => if b = true then sds Γ body δ' μ2 { E with nx := fun δ3 μ3 => ∃ m', m' < m ∧ I m' δ3 μ3, ct := fun δ3 μ3 => ∃ m', m' < m ∧ I m' δ3 μ3, bk := E.nx } else E.nx δ' μ2) :
    sd Γ (.While c body [] pos) δ μ E := fun F σ H a => by
  refine ws_of (ps_while Γ.po pt_wt pss_wss) ?_
  refine ⟨fun m σ' H' => ∃ F' δ' μ', Same F F' ∧ At Γ F' δ' μ' σ' H' ∧ I m δ' μ', ⟨m0, F, δ, μ, Same.refl _, a, h0⟩, ?_⟩
  rintro m σ' H' ⟨F', δ', μ', s', a', hI⟩
  refine wt_mono (h m δ' μ' hI F' σ' H' a') fun b H2 ⟨F2, μ2, s2, a2, q2⟩ => ?_
  cases b with
  | true =>
    rw [if_pos rfl] at q2 ⊢
    refine ⟨PostN Γ F fun δ3 μ3 => ∃ m', m' < m ∧ I m' δ3 μ3, fun σ3 H3 ⟨F3, δ3, μ3, s3, a3, m', hm, q3⟩ => ⟨m', hm, F3, δ3, μ3, s3, a3, q3⟩, ?_⟩
    exact wss_mono (q2 F2 σ' H2 a2) ⟨fun _ _ z => z.up (s'.trans s2), fun _ _ z => z.up (s'.trans s2), fun _ _ z => z.up (s'.trans s2), fun _ _ z => z.up (s'.trans s2)⟩
  | false =>
    rw [if_neg Bool.false_ne_true] at q2 ⊢
    exact ⟨F2, δ', μ2, s'.trans s2, a2, q2⟩
end
/-! ### comprehensions -/
def wipeD (δ : Dl) : List Nat → Dl
  | [] => δ
  | v :: vs => (wipeD δ vs).set v none
theorem Fr.wipe {K : PySem.W.Frag} {F : Hp} {σ : L2.St} {δ : Dl} (h : Fr K F σ δ) : ∀ vs : List Nat, Fr K F (L2.wipe σ vs) (wipeD δ vs)
  | [] => h
  | v :: vs => (Fr.wipe h vs).unset v none
theorem takesF {X : Cx} {K : PySem.W.Frag} {F0 : Hp} {μ0 : Mu} {H0 : Hp} : Takes X (WofD K F0 μ0 H0 fun _ _ _ _ _ => False) := (takes0 (X := X)).imp fun c d σ H h => by
  obtain ⟨_, _, _, _, _, _, _, _, _, z⟩ := h; exact z
/-- the context of a comprehension's block -/
@[reducible] def Ct.blk (Γ : Ct) (scope : Scope) (s : Shared) (H : Hp) (C : Addr) (cl : List (Str × Addr)) (fp : List Addr) (F0 : Hp) (μ0 : Mu) (H0 : Hp) : Ct :=
  ⟨Γ.X.blk s H scope (compEnvC scope cl C Γ.X.env) fp, F0, μ0, H0, fun _ _ _ _ _ => False, false, takesF, PassesOwn.never⟩
/-- a target in a block: only the block's own slots are stored -/
def gv (Γ : Ct) (tg : Expr) (d : D) (vs : List Nat) (δ : Dl) (μ : Mu) (Q : Dl → Mu → Prop) : Prop := ∀ F σ H v, At Γ F δ μ σ H → Dp Γ.X.K F d v → wg Γ.X tg v σ H fun σ' H' => L2.wipe σ' vs = L2.wipe σ vs ∧ PostN Γ F Q σ' H'
def gvs (Γ : Ct) (tg : List Expr) (ds : List D) (vs : List Nat) (δ : Dl) (μ : Mu) (Q : Dl → Mu → Prop) : Prop := ∀ F σ H us, At Γ F δ μ σ H → Dps Γ.X.K F ds us → wgs Γ.X tg us σ H fun σ' H' => L2.wipe σ' vs = L2.wipe σ vs ∧ PostN Γ F Q σ' H'
theorem wipe_set_in {σ : L2.St} {j : Nat} {x : Option V} : ∀ {vs : List Nat}, j ∈ vs → L2.wipe (σ.set j x) vs = L2.wipe σ vs
  | v :: vs, h => by
    show (L2.wipe (σ.set j x) vs).set v none = (L2.wipe σ vs).set v none
    by_cases hj : j ∈ vs
    · rw [wipe_set_in hj]
    · have e : j = v := by rcases List.mem_cons.mp h with e | e; exact e; exact absurd e hj
      subst e
      have key : ∀ (us : List Nat), j ∉ us → L2.wipe (σ.set j x) us = (L2.wipe σ us).set j x := by
        intro us
        induction us with
        | nil => intro _; rfl
        | cons u us ih =>
          intro hu
          show (L2.wipe (σ.set j x) us).set u none = ((L2.wipe σ us).set u none).set j x
          rw [ih fun z => hu (List.mem_cons_of_mem _ z)]
          exact List.set_comm _ _ (fun z => hu (by rw [z]; exact List.mem_cons_self))
      rw [key vs hj, List.set_set]
section
variable {Γ : Ct} {δ : Dl} {μ : Mu} {vs : List Nat} {pos : Pos}
theorem gv_name {i : Nat} {x : Str} {d : D} {Q : Dl → Mu → Prop} (hN : Γ.X.N.Nodup) (hi : Γ.X.N[i]? = some x) (hv : i ∈ vs) (q : Q (δ.set i (some d)) μ) (hx : Loc Γ.X.env.scope x := by first | exact .inl rfl | exact .inr rfl)
    (hf : Γ.X.fn x = true ∨ Γ.X.env.scope.names.lookup x = some .local := by first | exact .inl rfl | exact .inr rfl | assumption) : gv Γ (.Name x pos) d vs δ μ Q := fun F σ H v a r =>
  wg_of (pg_name hN hi hx hf) ⟨wipe_set_in hv, F, _, μ, Same.refl F, a.fr_set i r, q⟩
theorem gvs_nil {Q : Dl → Mu → Prop} (q : Q δ μ) : gvs Γ [] [] vs δ μ Q := fun F σ H us a r => wgs_of pgs_nil ⟨r.unnil, rfl, F, δ, μ, Same.refl F, a, q⟩
theorem gvs_cons {e : Expr} {es : List Expr} {d : D} {ds : List D} {Q : Dl → Mu → Prop} (h : gv Γ e d vs δ μ fun δ' μ' => gvs Γ es ds vs δ' μ' Q) (hs : (assignEach (e :: es) Γ.X.env).map (·.2) = assign e Γ.X.env :: (assignEach es Γ.X.env).map (·.2) := by rfl) :
    gvs Γ (e :: es) (d :: ds) vs δ μ Q := fun F σ H us a r => by
  obtain ⟨v, ws', rfl, r1, r2⟩ := r.uncons
  refine wgs_of (pgs_cons pg_wg pgs_wgs hs) ⟨v, ws', rfl, wg_mono (h F σ H v a r1) fun σ1 H1 ⟨w1, F1, δ1, μ1, s1, a1, q1⟩ => ?_⟩
  exact wgs_mono (q1 F1 σ1 H1 ws' a1 (r2.mono s1)) fun σ2 H2 ⟨w2, z⟩ => ⟨w2.trans w1, z.up s1⟩
theorem gv_tup {es : List Expr} {k : Nat} {ds : List D} {n : Nat} {Q : Dl → Mu → Prop} (hc : Γ.X.calm = true) (h : ds.length = n ∧ gvs Γ es ds vs δ μ Q) (hn : (assignEach es Γ.X.env).length = n := by rfl) (hst : (assignEach es Γ.X.env).findIdx? (·.1) = none := by rfl) :
    gv Γ (.Tuple es k pos) (.tup ds) vs δ μ Q := fun F σ H v a r => by
  obtain ⟨p, us, rfl, hq, r⟩ := dpT r
  exact wg_of (pg_tup hc pgs_wgs hn hst) ⟨p, us, rfl, Same.sqT a.sx.sub hq, by rw [← r.length]; exact h.1, h.2 F σ H us a r⟩
end
/-- the tests of a comprehension: none, one -/
def eif (Γ : Ct) (ifs : List Expr) (δ : Dl) (μ : Mu) (Q : Bool → Mu → Prop) : Prop := match ifs with
  | [] => Q true μ
  | [c] => et Γ c δ μ Q
  | _ => False
def wif (X : Cx) : List Expr → TT
  | [] => tYes
  | [c] => wt X c
  | _ => fun _ _ _ => False
theorem pts_wif {X : Cx} : ∀ ifs : List Expr, PTs X ifs (wif X ifs)
  | [] => pts_nil
  | [c] => pts_one pt_wt
  | _ :: _ :: _ => ⟨fun _ _ _ _ _ _ h => h.elim⟩
theorem eif_run {Γ : Ct} {ifs : List Expr} {δ : Dl} {μ : Mu} {Q : Bool → Mu → Prop} (h : eif Γ ifs δ μ Q) {F σ H} (a : At Γ F δ μ σ H) {R : Bool → Hp → Prop} (k : ∀ b H', PostT Γ F δ σ Q b H' → R b H') : wif Γ.X ifs σ H R := by
  match ifs, h with
  | [], h => exact k true H ⟨F, μ, Same.refl F, a, h⟩
  | [c], h => exact wt_mono (h F σ H a) fun b H' z => k b H' z
section
variable {Γ : Ct} {elt tg iter : Expr} {ifs : List Expr} {scope : Scope} {own : List (Str × Nat)} {pos : Pos} {δ : Dl} {μ : Mu} {Q : D → Mu → Prop}
/-- a judgement in all blocks of a comprehension -/
def allB (Γ : Ct) (scope : Scope) (J : Ct → Prop) : Prop := ∀ (s : Shared) (H : Hp) (C : Addr) (cl : List (Str × Addr)) (fp : List Addr) (F0 : Hp) (μ0 : Mu) (H0 : Hp), J (Γ.blk scope s H C cl fp F0 μ0 H0)
/-- what a comprehension asks: I by the turn, the items made so far, the cells -/
def lcd (Γ : Ct) (elt tg iter : Expr) (ifs : List Expr) (scope : Scope) (vs : List Nat) (δ : Dl) (μ : Mu) (Q : List D → Mu → Prop) : Prop := eid Γ tg iter δ μ fun ds S μ1 => ds.length ≤ 1000000 ∧ ∃ I : Nat → List D → Mu → Prop, I 0 [] μ1 ∧ (∀ i acc μ', i ≤ ds.length → I i acc μ' → S μ' ∧ acc.length ≤ i) ∧
      (∀ i d acc μ', ds[i]? = some d → I i acc μ' → allB Γ scope fun Γb => gv Γb tg d vs (wipeD δ vs) μ' fun δ2 μ2 => allB Γ scope fun Γc => eif Γc ifs δ2 μ2 fun b μ3 =>
        if b = true then allB Γ scope fun Γd => ed Γd elt δ2 μ3 fun r μ4 => I (i + 1) (acc ++ [r]) μ4 else I (i + 1) acc μ3) ∧ ∀ acc μ', I ds.length acc μ' → Q acc μ'
/-- the readings of a block's parts, of all blocks at once -/
def wgB (X : Cx) (scope : Scope) (tg : Expr) : TG := fun v σ H Q => ∀ s H0 C cl fp, wg (X.blk s H0 scope (compEnvC scope cl C X.env) fp) tg v σ H Q
def wtB (X : Cx) (scope : Scope) (ifs : List Expr) : TT := fun σ H Q => ∀ s H0 C cl fp, wif (X.blk s H0 scope (compEnvC scope cl C X.env) fp) ifs σ H Q
def weB (X : Cx) (scope : Scope) (elt : Expr) : TE := fun σ H Q => ∀ s H0 C cl fp, we (X.blk s H0 scope (compEnvC scope cl C X.env) fp) elt σ H Q
theorem pg_wgB {X : Cx} (s H C cl fp) : PG (X.blk s H scope (compEnvC scope cl C X.env) fp) tg (wgB X scope tg) := ⟨fun pins s' σ H' v u Q I r h => h s H C cl fp pins s' u I r⟩
theorem pts_wtB {X : Cx} (s H C cl fp) : PTs (X.blk s H scope (compEnvC scope cl C X.env) fp) ifs (wtB X scope ifs) := ⟨fun pins s' σ H' Q I h => (pts_wif ifs).run pins s' σ H' Q I (h s H C cl fp)⟩
theorem pe_weB {X : Cx} (s H C cl fp) : PE (X.blk s H scope (compEnvC scope cl C X.env) fp) elt (weB X scope elt) := ⟨fun pins s' σ H' Q I h => h s H C cl fp pins s' I⟩
theorem wipe_wipe {σ : L2.St} : ∀ {vs : List Nat}, L2.wipe (L2.wipe σ vs) vs = L2.wipe σ vs := by
  have key : ∀ (vs us : List Nat) (σ : L2.St), (∀ u ∈ us, u ∈ vs) → L2.wipe (L2.wipe σ us) vs = L2.wipe σ vs := by
    intro vs us
    induction us with
    | nil => intro σ _; rfl
    | cons u us ih =>
      intro σ h
      show L2.wipe ((L2.wipe σ us).set u none) vs = _
      rw [wipe_set_in (h u List.mem_cons_self)]
      exact ih σ fun x hx => h x (List.mem_cons_of_mem _ hx)
  exact fun {vs} => key vs vs σ fun _ h => h
/-- the block's state: the new list stands apart -/
structure LcAt (Γ : Ct) (F1 : Hp) (δ : Dl) (σ : L2.St) (Dl : Addr) (acc : List D) (μ : Mu) (H F : Hp) : Prop where
  sm : Same F1 F
  at_ : At Γ F δ μ σ H
  ls : ∃ vs, H Dl = some (.lst vs) ∧ Dps Γ.X.K F acc vs
  f : F Dl = none
  m : Dl ∉ dom μ
theorem LcAt.step {F1 F F2 H H2 : Hp} {σ σb : L2.St} {δb : PD.Dl} {Da : Addr} {acc : List D} {μ μ2 : Mu} (L : LcAt Γ F1 δ σ Da acc μ H F) (st : Step F μ H F2 μ2 H2) (sx : Sx Γ.X.K F2 μ2 H2) : LcAt Γ F1 δ σ Da acc μ2 H2 F2 := by
  obtain ⟨vs, h1, h2⟩ := L.ls
  refine ⟨L.sm.trans st.ext, ⟨L.at_.st.trans st, sx, L.at_.fr.mono st.ext⟩, ⟨vs, st.keep _ _ h1 L.m, h2.mono st.ext⟩, ?_, fun hm => ?_⟩
  · cases e : F2 Da with
    | none => rfl
    | some o =>
      rcases st.new _ _ e L.f with q | q
      · rw [h1] at q; cases q
      · exact absurd q L.m
  · rcases st.cell _ hm with q | q
    · exact L.m q
    · rw [h1] at q; cases q
theorem lcd_run {vs : List Nat} {Q : List D → Mu → Prop} (h : lcd Γ elt tg iter ifs scope vs δ μ Q) (F σ H) (a : At Γ F δ μ σ H) :
    tLc (wi Γ.X tg iter) (wgB Γ.X scope tg) (wtB Γ.X scope ifs) (weB Γ.X scope elt) vs σ H (PostE Γ F δ σ fun d μ' => ∃ ds, d = .lst ds ∧ Q ds μ') := by
  refine wi_mono (h F σ H a) fun J H1 ⟨F1, ds, S, μ1, s1, a1, ok, hz, I, h0, hS, hb, hd⟩ => fun Da hD => ?_
  have h0D : Γ.H0 Da = none ∨ Da ∈ dom Γ.μ0 := a1.st.back hD
  refine ⟨fun i m H' => m = ds.length - i ∧ i ≤ ds.length ∧ ∃ F' acc μ', LcAt Γ F1 δ σ Da acc μ' H' F' ∧ I i acc μ', ⟨ds.length, by simp, Nat.zero_le _, F1, [], μ1, ⟨Same.refl _, a1.ext (same_upd hD), ⟨[], upd_same, Dps.nil⟩, a1.sx.sub.free hD, fun hm => ?_⟩, h0⟩, ?_⟩
  · obtain ⟨c, hc, e⟩ := List.mem_map.mp hm
    obtain ⟨u, hu⟩ := (a1.sx.cells c hc).there
    rw [e, hD] at hu; cases hu
  rintro i m H' ⟨rfl, hi, F', acc, μ', L, hI⟩
  obtain ⟨hSi, hacc⟩ := hS i acc μ' hi hI
  by_cases hlt : i < ds.length
  · have e : ds[i]? = some ds[i] := List.getElem?_eq_getElem hlt
    have ah := L.at_.here
    obtain ⟨g1, g2⟩ := ok.go (Γ.here L.at_.st) rfl i F' δ μ' σ H' L.sm ah hSi _ e
    refine .inr ⟨g1, fun H2 => ∃ F2 acc2 μ2, LcAt Γ F1 δ σ Da acc2 μ2 H2 F2 ∧ I (i + 1) acc2 μ2, fun H2 ⟨F2, acc2, μ2, L2', q2⟩ => ⟨ds.length - (i + 1), by omega, rfl, hlt, F2, acc2, μ2, L2', q2⟩, fun x H2 y => ?_⟩
    obtain ⟨F2, s2, a2, r2⟩ := g2 x H2 y
    have LL := L.step (σb := σ) (δb := δ) a2.st a2.sx
    intro sB HB C cl fp
    have aB : At (Γ.blk scope sB HB C cl fp F2 μ' H2) F2 (wipeD δ vs) μ' (L2.wipe σ vs) H2 := ⟨Step.refl _ _ _, LL.at_.sx, LL.at_.fr.wipe vs⟩
    refine wg_mono (hb i _ acc μ' e hI sB HB C cl fp F2 μ' H2 F2 (L2.wipe σ vs) H2 x aB r2) fun σ3 H3 ⟨w3, F3, δ3, μ3, s3, a3, q3⟩ => ⟨w3.trans wipe_wipe, ?_⟩
    have L3 := LL.step (σb := σ) (δb := δ) a3.st a3.sx
    intro sB2 HB2 C2 cl2 fp2
    have aC : At (Γ.blk scope sB2 HB2 C2 cl2 fp2 F3 μ3 H3) F3 δ3 μ3 σ3 H3 := ⟨Step.refl _ _ _, a3.sx, a3.fr⟩
    refine eif_run (q3 sB2 HB2 C2 cl2 fp2 F3 μ3 H3) aC fun b H4 ⟨F4, μ4, s4, a4, q4⟩ => ?_
    have L4 := L3.step (σb := σ) (δb := δ) a4.st a4.sx
    cases b with
    | true =>
      rw [if_pos rfl] at q4 ⊢
      intro sB5 HB5 C5 cl5 fp5
      have aE : At (Γ.blk scope sB5 HB5 C5 cl5 fp5 F4 μ4 H4) F4 δ3 μ4 σ3 H4 := ⟨Step.refl _ _ _, a4.sx, a4.fr⟩
      refine we_mono (q4 sB5 HB5 C5 cl5 fp5 F4 μ4 H4 F4 σ3 H4 aE) fun v H5 ⟨F5, r, μ5, s5, a5, r5, q5⟩ => ?_
      have L5 := L4.step (σb := σ) (δb := δ) a5.st a5.sx
      obtain ⟨ws, h1, h2⟩ := L5.ls
      refine ⟨ws, h1, ?_, F5, acc ++ [r], μ5, ⟨L5.sm, L5.at_.updFree h0D L5.f L5.m, ⟨ws ++ [v], upd_same, h2.append (Dps.cons r5 Dps.nil)⟩, L5.f, L5.m⟩, q5⟩
      rw [← h2.length, sizeLine_eq]
      omega
    | false =>
      rw [if_neg Bool.false_ne_true] at q4 ⊢
      exact ⟨F4, acc, μ4, L4, q4⟩
  · have e : i = ds.length := by omega
    subst e
    refine .inl ⟨ok.stop Γ rfl _ F' δ μ' σ H' L.sm L.at_ hSi (Nat.le_refl _), ?_⟩
    obtain ⟨ws, h1, h2⟩ := L.ls
    -- the list is known from now on
    have sF := same_upd (o := HO.lst ws) L.f
    have ah := L.at_
    have a2 : At Γ (upd F' Da (.lst ws)) δ μ' σ H' := by
      refine ⟨⟨ah.st.ext.trans sF, ah.st.keep, fun b u h hn => ?_, ah.st.cell⟩, ⟨fun b u h => ?_, fun c hc => ?_, ah.sx.nd, fun c hc => (ah.sx.cells c hc).mono sF rfl⟩, ah.fr.mono sF⟩
      · by_cases q : b = Da
        · rw [q]; exact h0D
        · rw [upd_ne q] at h; exact ah.st.new b u h hn
      · by_cases q : b = Da
        · rw [q, upd_same] at h; rw [q, ← h]; exact h1
        · rw [upd_ne q] at h; exact ah.sx.sub _ _ h
      · rw [upd_ne (fun e => L.m (by rw [← e]; exact List.mem_map.mpr ⟨c, hc, rfl⟩))]; exact ah.sx.off c hc
    exact ⟨_, .lst acc, μ', s1.trans (L.sm.trans sF), a2, dpl upd_same (h2.mono sF), acc, rfl, hd acc μ' hI⟩
theorem ed_lc {own : List (Str × Nat)} {Q : D → Mu → Prop} (own_ : List (Str × Nat)) (e : own = own_) (hc : Γ.X.calm = true) (hN : Γ.X.N.Nodup) (ok : BlkOk Γ.X.N Γ.X.env.scope scope own) (h : lcd Γ elt tg iter ifs scope (own.map (·.2)) δ μ fun ds μ' => Q (.lst ds) μ')
    (hs : ∀ x, foldedSetIterable iter Γ.X.env x = pure x := by intro _; rfl) : ed Γ (.ListComp elt [⟨tg, iter, ifs, 0⟩] scope pos) δ μ Q := fun F σ H a =>
  we_mono (we_of (pe_lc hc hN pi_wi ok pg_wgB pts_wtB pe_weB hs) (lcd_run h F σ H a)) fun v H' ⟨F', d, μ', s, a', r, ds, e, q⟩ => ⟨F', d, μ', s, a', r, by rw [e]; exact q⟩
/-- name = [..] -/
theorem sd_setLc {own : List (Str × Nat)} {E : En} {i : Nat} {y : Str} {py spos : Pos} (hc : Γ.X.calm = true) (hN : Γ.X.N.Nodup) (hy : Γ.X.N[i]? = some y) (hyl : Γ.X.env.scope.names.lookup y = some .local)
    (hsw : swapsWith (.ListComp elt [⟨tg, iter, ifs, 0⟩] scope pos) (some (.Name y py)) spos.line Γ.X.env = pure true) (ok : BlkOk Γ.X.N Γ.X.env.scope scope own)
    (h : lcd Γ elt tg iter ifs scope (own.map (·.2)) δ μ fun ds μ' => E.nx (δ.set i (some (.lst ds))) μ') (hs : ∀ x, foldedSetIterable iter Γ.X.env x = pure x := by intro _; rfl) :
    sd Γ (.Assign [.Name y py] (.ListComp elt [⟨tg, iter, ifs, 0⟩] scope pos) spos) δ μ E := fun F σ H a => by
  have key := lcd_run h F σ H a
  refine ws_of (ps_setLc (g := wgB Γ.X scope tg) (tt := wtB Γ.X scope ifs) (te := weB Γ.X scope elt) hc hN hy hyl hsw pi_wi ok pg_wgB pts_wtB pe_weB hs) ?_
  have mono : ∀ {Q Q' : VK}, (∀ v H', Q v H' → Q' v H') → tLc (wi Γ.X tg iter) (wgB Γ.X scope tg) (wtB Γ.X scope ifs) (weB Γ.X scope elt) (own.map (·.2)) σ H Q → tLc (wi Γ.X tg iter) (wgB Γ.X scope tg) (wtB Γ.X scope ifs) (weB Γ.X scope elt) (own.map (·.2)) σ H Q' := fun k h =>
    wi_mono h fun J H1 z Da hD => by
      obtain ⟨W, w0, t⟩ := z Da hD
      refine ⟨W, w0, fun i m H' w => ?_⟩
      rcases t i m H' w with ⟨q1, q2⟩ | q
      · exact .inl ⟨q1, k _ _ q2⟩
      · exact .inr q
  exact mono (fun v H' ⟨F', d, μ', s, a', r, ds, e, q⟩ => by subst e; exact ⟨F', _, μ', s, a'.fr_set i r, q⟩) key
end
end PD
/-! PD5: defs, calls, fields, methods, instances. -/
namespace PD
open PySem PySem.Spec PyProof.Rows L2
/-! ### room, in which no repr is under way -/
structure Room (k : Nat) (A : Around) : Prop where
  r : L2.Room k A
  gd : A.guards = some []
section
variable {j k : Nat} {A : Around}
theorem Room.mono (r : Room k A) (h : j ≤ k) : Room j A := ⟨r.r.mono h, r.gd⟩
theorem Room.deeper (r : Room (k + 1) A) (env : Env) : Room k (A.deeper env) := ⟨r.r.deeper env, r.gd⟩
theorem Room.in1 (r : Room (k + 1) A) : Room k A.in1 := ⟨r.r.in1, r.gd⟩
theorem make_guards {C : Addr} {us : List Value} {kw : List (Str × Value)} : (A.under (.builtin "type.__call__" ⟨.ref C :: us, kw⟩)).guards = A.guards := by
  have e : guardIds.contains "type.__call__" = false := by decide +kernel
  have e1 : Code.isGuard (.builtin "type.__call__" ⟨.ref C :: us, kw⟩) = false := e
  have e2 : Code.guards (.builtin "type.__call__" ⟨.ref C :: us, kw⟩) = [] := by
    unfold Code.guards
    rw [e1, if_neg Bool.false_ne_true]
  show pushGuards (Code.guards (.builtin "type.__call__" ⟨.ref C :: us, kw⟩)) A.guards = A.guards
  rw [e2]
  rfl
theorem Room.make (r : Room (k + 1) A) (C : Addr) (us : List Value) (kw : List (Str × Value)) : Room k (A.under (.builtin "type.__call__" ⟨.ref C :: us, kw⟩)) := ⟨r.r.make C us kw, make_guards.trans r.gd⟩
theorem Room.units (r : Room k A) : A.units + 64 < cLine := r.r.units
theorem Room.hd (r : Room k A) : A.handled = none := r.r.hd
theorem Room.dp (r : Room k A) : A.depth + 3 * k + 5 < recursionLimit := r.r.dp
theorem Room.un (r : Room k A) : A.units + 16 * k + 200 < cLine := r.r.un
end
/-! ### what a def promises: b tells whether what it raises has None for its context -/
def CXB : Bool → Program → World → CXT
  | true, P, w => L2N.CX P w
  | false, P, w => L2.CX P w
structure FnOk (P : Program) (w : World) (K : PySem.W.Frag) (mg : Str → Option Value) (base : Heap) (b : Bool) (k : Nat) (f : Addr) (fd : FuncData) (ps : List Str) (sp : Sp) : Prop where
  len : ∀ vs H Q E, sp vs H Q E → vs.length = ps.length
  run : ∀ (A : Around) (outer : List Env) (s : Shared) (H : Hp) (args : Args) (us : List Value) (vs : List V) (Q : VK) (E : XK), Room k A → Env0 P w K mg base A outer s H → BindsTo s fd args (ps.zip us) → Vals vs us → sp vs H Q E →
    codeAny (model P w) A (.call (.ref f) args) (CR (CXB b P w) outer P w H s Q E) s
section
variable {P : Program} {w : World} {K : PySem.W.Frag} {mg : Str → Option Value} {base : Heap} {b : Bool} {j k : Nat} {f : Addr} {fd : FuncData} {ps : List Str} {sp sp' : Sp}
theorem FnOk.imp (G : FnOk P w K mg base b k f fd ps sp) (h : ∀ vs H Q E, sp' vs H Q E → sp vs H Q E) : FnOk P w K mg base b k f fd ps sp' where
  len := fun vs H Q E q => G.len vs H Q E (h _ _ _ _ q)
  run := fun A outer s H args us vs Q E r e bd v q => G.run A outer s H args us vs Q E r e bd v (h _ _ _ _ q)
/-- a def's body, stepped through in its own context -/
theorem FunD.okG {x qual : Str} {params : Arguments} {body : List Stmt} {scope : Scope} {dvs : List V} {kws : List (Str × V)} {N : List Str} (F : FunD K x qual params body scope dvs kws f fd) (S : FnScope N ps scope) (len : ∀ vs H Q E, sp vs H Q E → vs.length = ps.length)
    (hb : ∀ (cdv : Value) (A : Around) (outer : List Env) (s : Shared) (H : Hp) (vs : List V) (Q : VK) (E : XK), Room k (A.deeper (envOfC qual scope s.heap.objs.size f cdv)) → sp vs H Q E →
      wss (cxOf (CXB b P w) P w K mg base N qual scope f cdv A outer s H E) body { nx := fun _ H' => Q .non H', rt := Q } (L2.start N vs) H) : FnOk P w K mg base b (k + 1) f fd ps sp := by
  obtain ⟨oc, od, dV, kV, doc, pm, an, cdv, ct, osl, rfl, look, code, _, _⟩ := F.ex
  refine ⟨len, fun A outer s H args us vs Q E room e0 bound rel want => ?_⟩
  have kin : K.In s.heap := e0.mod.kin.keeps fun c o e => (e0.bs c o e).1
  have kinds : ∀ y ∈ ps.zip us, scope.names.lookup y.1 = some .local ∨ (scope.names.lookup y.1 = some .cell ∧ ((cellsFrom (s.heap.objs.size + 1) scope.names []).lookup y.1).isSome = true) := by
    rintro ⟨y, u⟩ hy
    exact (S.par y (List.of_mem_zip hy).1).imp id fun q => ⟨q, PySem.W.cellsFrom_some _ _ _ (.inl q)⟩
  refine codeAny_call_function room.r.depth (kin _ _ look) rfl S.co S.gen rfl (PySem.W.codeRec_of kin code) (bound _ _ _ _ (wpAny_newFunctionEnv_cells S.kind kinds fun env ee s1 x => ?_))
  cases ee
  refine ⟨(e0.mod.nolimit.keeps fun c o e => (e0.bs c o e).1).keeps x.toInCall.keep, codeAny_func ?_⟩
  have go := hb cdv A outer s H vs Q E (room.deeper _) want [] s1 (inv_start S room.hd e0 (len _ _ _ _ want) rel x)
  refine wpAny_mono go (fun res s' z => ?_) fun _ _ z => z
  match res, z with
  | .ret u, ⟨v, _, H', J, rv, q⟩ => exact ⟨v, H', J.os, J.bare, J.base, J.hok, rv, q⟩
  | .next, ⟨_, H', J, q⟩ => exact ⟨V.non, H', J.os, J.bare, J.base, J.hok, rfl, q⟩
  | .brk, ⟨_, _, _, q⟩ => exact q.elim
  | .cont, ⟨_, _, _, q⟩ => exact q.elim
end
section
variable {X : Cx} {b : Bool} {k : Nat} {f : Addr} {fd : FuncData} {ps : List Str} {sp : Sp} {dvs : List V} {ds : List Value} {E : L2.St → XK} {x : Str} {p pos : Pos} {e : Expr} {es : List Expr} {t : TA}
theorem run_fnSD {pins : List (Addr × Obj)} {σ : L2.St} {H : Hp} {s : Shared} {Q : VK} {us : List Value} {vs : List V} (G : FnOk X.prog X.w X.K X.mg X.base b k f fd ps sp) (hr : Room k X.A) (hb : Binds X.K fd ps ds) (hd : Vals dvs ds) (hx : PassesAt (CXB b X.prog X.w) X σ (E σ))
    (I : Inv X pins σ H s) (r : Vals vs us) (h : sp (vs ++ dvs) H Q (E σ)) : wpAny (model X.prog X.w) X.A (call (.ref f) us) (EP X pins σ Q) X.xe s := by
  have rr := r.append hd
  have hn : (us ++ ds).length = ps.length := rr.length.symm.trans (G.len _ _ _ _ h)
  refine wpAny_call (codeAny_mono (G.run X.A X.stack s H ⟨us, []⟩ _ _ Q (E σ) hr I.env0 (hb s us I.kIn hn) rr h) fun res s' z => ?_)
  match res, z with
  | .error er, z => exact hx pins H s er s' I z
  | .ok (.ret u), z => exact I.after z
theorem pe_callSD (G : FnOk X.prog X.w X.K X.mg X.base b k f fd ps sp) (hr : Room k X.A) (hg : Gl X x) (hm : X.mg x = some (.ref f)) (hk : PySem.W.keepIn X.K (.ref f) = true) (hb : Binds X.K fd ps ds) (hd : Vals dvs ds) (hx : ∀ σ, PassesAt (CXB b X.prog X.w) X σ (E σ))
    (ha : PA X (e :: es) t) (hdb : (x == ("__debug__" : Str)) = false := by decide) (he : starEach (e :: es) X.env = (false, eval e X.env) :: starEach es X.env := by rfl) (hpl : (backTo pos (starEach es X.env)).any (·.1) = false := by rfl) :
    PE X (.Call (.Name x p) (e :: es) [] pos) (tCallSD sp dvs E t) where
  run := fun pins s σ H Q I h => wpAny_Call_Name_kw (ld_glob I hg hm (PySem.W.callWith_K (h₀ := X.base) I.ok.mod.kin hk (thn (ha.run pos pins s σ H _ I h) fun us s1 ⟨vs, H1, I1, r, q⟩ => ⟨I1.kIn, run_fnSD G hr hb hd (hx σ) I1 r q⟩) he hpl) hdb)
end
theorem passAt {b : Bool} {X : Cx} {W : WX} (tk : TkB b X W) (σ : L2.St) : PassesAt (CXB b X.prog X.w) X σ (WE W σ) := by
  cases b with
  | true => exact L2N.passAt tk σ
  | false => exact L2.passAt tk σ
/-- a def's promise over data: the arguments, the cells, the wanted end, the wanted exception -/
abbrev SpD := List D → Mu → (D → Mu → Prop) → (Value → List Str → List D → Mu → Prop) → Prop
def spOf (K : PySem.W.Frag) (n : Nat) (sp : SpD) : Sp := fun vs H Q E => ∃ F μ ds Qd Ed, Sx K F μ H ∧ Dps K F ds vs ∧ ds.length = n ∧ sp ds μ Qd Ed ∧ (∀ v H' F' μ' d, Step F μ H F' μ' H' → Sx K F' μ' H' → Dp K F' d v → Qd d μ' → Q v H') ∧
  (∀ cls dx H' F' μ' ns xs, Step F μ H F' μ' H' → Sx K F' μ' H' → XdOk K F' dx ns xs → Ed cls ns xs μ' → E cls dx H')
abbrev FnD (b : Bool) (P : Program) (w : World) (K : PySem.W.Frag) (mg : Str → Option Value) (base : Heap) (k : Nat) (f : Addr) (fd : FuncData) (ps : List Str) (sp : SpD) : Prop := FnOk P w K mg base b k f fd ps (spOf K ps.length sp)
theorem FnD.imp {b : Bool} {P : Program} {w : World} {K : PySem.W.Frag} {mg : Str → Option Value} {base : Heap} {k : Nat} {f : Addr} {fd : FuncData} {ps : List Str} {sp sp' : SpD} (F : FnD b P w K mg base k f fd ps sp) (h : ∀ ds μ Q E, sp' ds μ Q E → sp ds μ Q E) : FnD b P w K mg base k f fd ps sp' :=
  FnOk.imp F fun vs H Q E ⟨F', μ, ds, Qd, Ed, a, b, c, d, e⟩ => ⟨F', μ, ds, Qd, Ed, a, b, c, h _ _ _ _ d, e⟩
/-! ### a def's body -/
section
variable {P : Program} {w : World} {K : PySem.W.Frag} {mg : Str → Option Value} {base : Heap}
theorem tkB_of (b : Bool) {N : List Str} {qual : Str} {scope : Scope} {f : Addr} {cdv : Value} {A : Around} {outer : List Env} {s : Shared} {H : Hp} {E : XK} : TkB b (cxOf (CXB b P w) P w K mg base N qual scope f cdv A outer s H E) (fun cls d _ H' => E cls d H') := by
  cases b with
  | true => exact L2N.takes_of (X := cxOf (L2N.CX P w) P w K mg base N qual scope f cdv A outer s H E) rfl rfl rfl rfl
  | false => exact L2.takes_of (X := cxOf (L2.CX P w) P w K mg base N qual scope f cdv A outer s H E) rfl rfl rfl rfl
/-- the context of a def's body -/
@[reducible] def mkCt (b : Bool) (P : Program) (w : World) (K : PySem.W.Frag) (mg : Str → Option Value) (base : Heap) (N : List Str) (qual : Str) (scope : Scope) (f : Addr) (cdv : Value) (A : Around) (outer : List Env) (s : Shared) (H : Hp) (F : Hp) (μ : Mu) (Ed : Value → List Str → List D → Mu → Prop) : Ct :=
  ⟨cxOf (CXB b P w) P w K mg base N qual scope f cdv A outer s H (fun cls dx H' => ∃ F' μ' ns xs, Step F μ H F' μ' H' ∧ Sx K F' μ' H' ∧ XdOk K F' dx ns xs ∧ Ed cls ns xs μ'), F, μ, H, fun cls ns xs _ μ' => Ed cls ns xs μ', b,
    (tkB_of b).imp fun c d σ H' h => by
      obtain ⟨F', μ', δ, ns, ds, s1, s2, _, x, z⟩ := h
      exact ⟨F', μ', ns, ds, s1, s2, x, z⟩,
    passes_of (X := cxOf (CXB b P w) P w K mg base N qual scope f cdv A outer s H (fun cls dx H' => ∃ F' μ' ns xs, Step F μ H F' μ' H' ∧ Sx K F' μ' H' ∧ XdOk K F' dx ns xs ∧ Ed cls ns xs μ')) rfl⟩
def startD (N : List Str) (ds : List D) : Dl := ds.map some ++ List.replicate (N.length - ds.length) none
theorem fr_start {F : Hp} {N : List Str} {ds : List D} {vs : List V} (r : Dps K F ds vs) : Fr K F (L2.start N vs) (startD N ds) := by
  refine ⟨?_, fun i d h => ?_⟩
  · unfold L2.start startD
    simp only [List.length_append, List.length_map, List.length_replicate, r.length]
  · unfold startD at h
    unfold L2.start
    by_cases hi : i < ds.length
    · rw [List.getElem?_append_left (by rw [List.length_map]; exact hi), List.getElem?_map] at h
      rw [List.getElem?_append_left (by rw [List.length_map, ← r.length]; exact hi), List.getElem?_map]
      cases e : ds[i]? with
      | none => rw [e] at h; cases h
      | some d' =>
        rw [e] at h
        have := Option.some.inj (Option.some.inj h)
        subst this
        obtain ⟨v, e2, r2⟩ := r.get e
        rw [e2]
        exact ⟨v, rfl, r2⟩
    · rw [List.getElem?_append_right (by rw [List.length_map]; omega), List.getElem?_replicate] at h
      split at h <;> cases h
/-- THE RULE of a def -/
theorem fnD_of {b : Bool} {x qual : Str} {params : Arguments} {body : List Stmt} {scope : Scope} {dvs : List V} {kws : List (Str × V)} {f : Addr} {fd : FuncData} {N ps : List Str} {k : Nat} {sp : SpD} (F : FunD K x qual params body scope dvs kws f fd) (S : FnScope N ps scope)
    (hb : ∀ (cdv : Value) (A : Around) (outer : List Env) (s : Shared) (H F : Hp) (μ : Mu) (ds : List D) (Qd : D → Mu → Prop) (Ed : Value → List Str → List D → Mu → Prop), Room k (mkCt b P w K mg base N qual scope f cdv A outer s H F μ Ed).X.A → ds.length = ps.length → sp ds μ Qd Ed →
      sds (mkCt b P w K mg base N qual scope f cdv A outer s H F μ Ed) body (startD N ds) μ { nx := fun _ μ' => Qd .non μ', rt := Qd }) : FnD b P w K mg base (k + 1) f fd ps sp := by
  refine FunD.okG F S (fun vs H Q E h => ?_) (fun cdv A outer s H vs Q E hr h => ?_)
  · obtain ⟨F', μ, ds, Qd, Ed, _, r, l, _⟩ := h
    rw [← l, r.length]
  · obtain ⟨F', μ, ds, Qd, Ed, sx, r, l, q, kq, ke⟩ := h
    intro pins s' I
    -- the wish E is weaker than ours
    have z := hb cdv A outer s H F' μ ds Qd Ed hr l q F' (L2.start N vs) H ⟨Step.refl _ _ _, sx, fr_start r⟩ pins s'
    have I' : Inv (mkCt b P w K mg base N qual scope f cdv A outer s H F' μ Ed).X pins (L2.start N vs) H s' := I.wish _
    refine wpAny_mono (z I') (fun fl s2 hq => ?_) (fun e s2 he => ?_)
    · have hq' : SP (cxOf (CXB b P w) P w K mg base N qual scope f cdv A outer s H E) pins (En.to { nx := fun _ μ' => Qd .non μ', rt := Qd } (mkCt b P w K mg base N qual scope f cdv A outer s H F' μ Ed) F') fl s2 := by
        cases fl with
        | next => obtain ⟨σ', H', I2, q⟩ := hq; exact ⟨σ', H', I2.wish _, q⟩
        | brk => obtain ⟨σ', H', I2, q⟩ := hq; exact ⟨σ', H', I2.wish _, q⟩
        | cont => obtain ⟨σ', H', I2, q⟩ := hq; exact ⟨σ', H', I2.wish _, q⟩
        | ret u => obtain ⟨v, σ', H', I2, rr, q⟩ := hq; exact ⟨v, σ', H', I2.wish _, rr, q⟩
      refine SP_mono ⟨fun σ' H' hh => ?_, fun v H' hh => ?_, fun σ' H' hh => ?_, fun σ' H' hh => ?_⟩ hq'
      · obtain ⟨F2, δ', μ', _, a, q⟩ := hh
        exact kq .non H' F2 μ' .non a.st a.sx dpn q
      · obtain ⟨F2, d, μ', _, st, sx2, rd, q⟩ := hh
        exact kq v H' F2 μ' d st sx2 rd q
      · obtain ⟨_, _, _, _, _, q⟩ := hh; exact q.elim
      · obtain ⟨_, _, _, _, _, q⟩ := hh; exact q.elim
    · have cm : ∀ {e' : Value} {s3 : Shared}, CXB b P w outer H s (fun cls dx H' => ∃ F2 μ' ns xs, Step F' μ H F2 μ' H' ∧ Sx K F2 μ' H' ∧ XdOk K F2 dx ns xs ∧ Ed cls ns xs μ') e' s3 → CXB b P w outer H s E e' s3 := fun {e' s3} h => by
        cases b <;>
        (obtain ⟨a, B, H', cls, d, h1, h2, h3, h4, h5, h6, h7, h8⟩ := h
         obtain ⟨F2, μ', ns, xs, y1, y2, y3, y4⟩ := h8
         exact ⟨a, B, H', cls, d, h1, h2, h3, h4, h5, h6, h7, ke _ _ _ F2 μ' ns xs y1 y2 y3 y4⟩)
      exact wpAny_mono (show wpAny (model P w) (A.deeper (envOfC qual scope s.heap.objs.size f cdv)) (leaving (envOfC qual scope s.heap.objs.size f cdv) e) (fun _ s'' => _) (fun e' s'' => _) s2 from he) (fun _ s3 h => cm h) fun e' s3 h => cm h
end
/-! ### calls of defs -/
section
variable {Γ : Ct} {δ : Dl} {μ : Mu} {Q : D → Mu → Prop} {pos : Pos}
/-- what a call wants of a promise -/
theorem spOf_at {K : PySem.W.Frag} {n : Nat} {sp : SpD} {F H : Hp} {σ : L2.St} {vs : List V} {ds : List D} (hK : Γ.X.K = K) (a : At Γ F δ μ σ H) (r : Dps K F ds vs) (hl : ds.length = n) (h : sp ds μ Q fun cls ns xs μ' => Γ.W cls ns xs δ μ') :
    spOf K n sp vs H (PostE Γ F δ σ Q) (fun cls dx H' => WofD Γ.X.K Γ.F0 Γ.μ0 Γ.H0 Γ.W cls dx σ H') := by
  subst hK
  exact ⟨F, μ, ds, Q, _, a.sx, r, hl, h, fun v H' F' μ' d st sx rd q => ⟨F', d, μ', st.ext, ⟨a.st.trans st, sx, a.fr.mono st.ext⟩, rd, q⟩,
    fun cls dx H' F' μ' ns xs st sx x w => ⟨F', μ', δ, ns, xs, a.st.trans st, sx, a.fr.mono st.ext, x, w⟩⟩
variable {k : Nat} {f C : Addr} {fd : FuncData} {ps : List Str} {sp : SpD} {dvs : List V} {dds : List D} {dus : List Value} {x m : Str} {p apos : Pos} {e o : Expr} {es : List Expr}
/-- the defaults as data -/
def DfD (K : PySem.W.Frag) (dds : List D) (dvs : List V) : Prop := ∀ F, Dps K F dds dvs
theorem DfD.nil {K : PySem.W.Frag} : DfD K [] [] := fun _ => Dps.nil
theorem ed_call (G : FnD Γ.nn Γ.X.prog Γ.X.w Γ.X.K Γ.X.mg Γ.X.base k f fd ps sp) (hr : Room k Γ.X.A) (hm : Γ.X.mg x = some (.ref f)) (hk : PySem.W.keepIn Γ.X.K (.ref f) = true) (hb : Binds Γ.X.K fd ps dus) (hd : Vals dvs dus) (hdd : DfD Γ.X.K dds dvs)
    (h : ea Γ (e :: es) δ μ fun ds μ1 => (ds ++ dds).length = ps.length ∧ sp (ds ++ dds) μ1 Q fun cls ns xs μ' => Γ.W cls ns xs δ μ') (hg : Gl Γ.X x := by rfl)
    (hdb : (x == ("__debug__" : Str)) = false := by decide +kernel) (he : starEach (e :: es) Γ.X.env = (false, eval e Γ.X.env) :: starEach es Γ.X.env := by rfl) (hpl : (backTo pos (starEach es Γ.X.env)).any (·.1) = false := by rfl) :
    ed Γ (.Call (.Name x p) (e :: es) [] pos) δ μ Q := fun F σ H a =>
  we_of (pe_callSD (E := fun σ cls dx H' => WofD Γ.X.K Γ.F0 Γ.μ0 Γ.H0 Γ.W cls dx σ H') G hr hg hm hk hb hd (fun σ => passAt Γ.tk σ) pa_wa hdb he hpl) (wa_mono (h F σ H a) fun vs H1 ⟨F1, ds, μ1, s1, a1, r1, hl, q⟩ => by
    obtain ⟨F2, μ2, ds2, Qd, Ed, b1, b2, b3, b4, b5, b6⟩ := spOf_at (K := Γ.X.K) (n := ps.length) (sp := sp) rfl a1 (r1.append (hdd F1)) hl q
    exact ⟨F2, μ2, ds2, Qd, Ed, b1, b2, b3, b4, fun v H' F' μ' d c1 c2 c3 c4 => (b5 v H' F' μ' d c1 c2 c3 c4).up s1, b6⟩)
/-! ### fields -/
/-- an instance's field over data: known or owned -/
def FldD (C : Addr) (f : Str) (x : D) (μ : Mu) (d : D) : Prop := match x with
  | .obj C' ns ds => C' = C ∧ (ns.zip ds).lookup f = some d
  | .ref p => ∃ dx ns ds, (p, Cell.ins C dx ns ds) ∈ μ ∧ (ns.zip ds).lookup f = some d
  | _ => False
theorem lookup_zip {K : PySem.W.Frag} {F : Hp} {f : Str} {d : D} : ∀ {ds : List D} {gs : List (Str × V)}, Dps K F ds (gs.map (·.2)) → ((gs.map (·.1)).zip ds).lookup f = some d → ∃ v, gs.lookup f = some v ∧ Dp K F d v
  | [], gs, r, h => by
    have e := r.unnil
    cases gs with
    | nil => cases h
    | cons g gs => cases e
  | d' :: ds, gs, r, h => by
    obtain ⟨v, ws, e, r1, r2⟩ := r.uncons
    cases gs with
    | nil => cases e
    | cons g gs =>
      obtain ⟨n, v'⟩ := g
      have e1 : v' = v := (List.cons.inj e).1
      have e2 : gs.map (·.2) = ws := (List.cons.inj e).2
      subst e1
      rw [← e2] at r2
      have h' : (match f == n with | true => some d' | false => ((gs.map (·.1)).zip ds).lookup f) = some d := h
      show ∃ v, (match f == n with | true => some v' | false => gs.lookup f) = some v ∧ Dp K F d v
      cases q : f == n with
      | true => rw [q] at h'; rw [← Option.some.inj h']; exact ⟨v', rfl, r1⟩
      | false => rw [q] at h'; exact lookup_zip r2 h'
theorem fldD_run {F H : Hp} {σ : L2.St} {f : Str} {x d : D} {v : V} (a : At Γ F δ μ σ H) (r : Dp Γ.X.K F x v) (h : FldD C f x μ d) : ∃ p dx gs u, v = .ref p ∧ H p = some (.ins C dx gs) ∧ gs.lookup f = some u ∧ Dp Γ.X.K F d u := by
  cases x with
  | obj C' ns ds =>
    obtain ⟨rfl, h⟩ := h
    rw [Dp] at r
    obtain ⟨p, dx, gs, rfl, h1, rfl, h3⟩ := r
    obtain ⟨u, e, ru⟩ := lookup_zip h3 h
    exact ⟨p, dx, gs, u, rfl, a.sx.sub _ _ h1, e, ru⟩
  | ref p =>
    rw [dpR r]
    obtain ⟨dx, ns, ds, hm, h⟩ := h
    obtain ⟨gs, h1, h2, h3⟩ := a.sx.cells _ hm
    have h2 : gs.map (·.1) = ns := h2
    subst h2
    obtain ⟨u, e, ru⟩ := lookup_zip h3 h
    exact ⟨p, dx, gs, u, rfl, h1, e, ru⟩
  | _ => exact h.elim
theorem ed_fld {fl : Str} (c : Cls Γ.X.K C) (na : NoAttr Γ.X.K C fl) (h : ed Γ e δ μ fun x μ1 => ∃ d, FldD C fl x μ1 d ∧ Q d μ1) (hb : attributeBase e fl Γ.X.env (eval e Γ.X.env) = eval e Γ.X.env := by rfl) : ed Γ (.Attribute e fl pos) δ μ Q := fun F σ H a =>
  we_of (pe_fld pe_we hb) (we_mono (h F σ H a) fun v H1 ⟨F1, x, μ1, s1, a1, r1, d, hf, q⟩ => by
    obtain ⟨p, dx, gs, u, rfl, h1, h2, h3⟩ := fldD_run a1 r1 hf
    exact ⟨p, C, dx, gs, u, rfl, h1, c, na, h2, F1, d, μ1, s1, a1, h3, q⟩)
/-- a class's constant through an instance, a method: what is known of the instance -/
def InsD (C : Addr) (x : D) (μ : Mu) (m : Str) : Prop := match x with
  | .obj C' ns _ => C' = C ∧ m ∉ ns
  | .ref p => ∃ dx ns ds, (p, Cell.ins C dx ns ds) ∈ μ ∧ m ∉ ns
  | _ => False
/-! ### a field of an owned instance is stored -/
def putD (f : Str) (d : D) : List Str → List D → List Str × List D
  | n :: ns, e :: es => if n = f then (n :: ns, d :: es) else (n :: (putD f d ns es).1, e :: (putD f d ns es).2)
  | _, _ => ([f], [d])
theorem putD_ok {K : PySem.W.Frag} {F : Hp} {f : Str} {d : D} {v : V} (rv : Dp K F d v) : ∀ {gs : List (Str × V)} {ds : List D}, Dps K F ds (gs.map (·.2)) → (putF f v gs).map (·.1) = (putD f d (gs.map (·.1)) ds).1 ∧ Dps K F (putD f d (gs.map (·.1)) ds).2 ((putF f v gs).map (·.2))
  | [], ds, r => by
    cases ds with
    | nil => exact ⟨rfl, Dps.cons rv Dps.nil⟩
    | cons d' ds => obtain ⟨_, _, e, _⟩ := r.uncons; cases e
  | (n, u) :: gs, ds, r => by
    cases ds with
    | nil => cases r.unnil
    | cons d' ds =>
      obtain ⟨u', ws, e, r1, r2⟩ := r.uncons
      have e1 : u = u' := (List.cons.inj e).1
      have e2 : gs.map (·.2) = ws := (List.cons.inj e).2
      subst e1
      rw [← e2] at r2
      obtain ⟨h1, h2⟩ := putD_ok rv r2
      show ((if n = f then (n, v) :: gs else (n, u) :: putF f v gs).map (·.1)) = (if n = f then (n :: gs.map (·.1), d :: ds) else (n :: (putD f d (gs.map (·.1)) ds).1, d' :: (putD f d (gs.map (·.1)) ds).2)).1 ∧ Dps K F (if n = f then (n :: gs.map (·.1), d :: ds) else (n :: (putD f d (gs.map (·.1)) ds).1, d' :: (putD f d (gs.map (·.1)) ds).2)).2 ((if n = f then (n, v) :: gs else (n, u) :: putF f v gs).map (·.2))
      by_cases q : n = f
      · simp only [if_pos q]
        exact ⟨rfl, Dps.cons rv r2⟩
      · simp only [if_neg q]
        refine ⟨?_, Dps.cons r1 h2⟩
        rw [List.map_cons, h1]
theorem sd_fld {value : Expr} {E : En} {fl : Str} {pos' : Pos} (c : Cls Γ.X.K C) (na : NoAttr Γ.X.K C fl) (h : ed Γ value δ μ fun d μ1 => ed Γ o δ μ1 fun x μ2 => ∃ p dx ns ds μa μb, x = .ref p ∧ μ2 = μa ++ (p, .ins C dx ns ds) :: μb ∧ ns.length < 1000 ∧ E.nx δ (μa ++ (p, .ins C dx (putD fl d ns ds).1 (putD fl d ns ds).2) :: μb))
    (hs : swapsWith value (some (.Attribute o fl pos')) pos.line Γ.X.env = pure false := by rfl) : sd Γ (.Assign [.Attribute o fl pos'] value pos) δ μ E := fun F σ H a =>
  ws_of (ps_fld pe_we pe_we hs) (we_mono (h F σ H a) fun v H1 ⟨F1, d, μ1, s1, a1, r1, q1⟩ => we_mono (q1 F1 σ H1 a1) fun u H2 ⟨F2, x, μ2, s2, a2, r2, p, dx, ns, ds, μa, μb, e1, e2, hl, q⟩ => by
    subst e1 e2
    rw [dpR r2]
    obtain ⟨gs, h1, h2, h3⟩ := a2.sx.cells (p, .ins C dx ns ds) mem_mid
    have h2 : gs.map (·.1) = ns := h2
    subst h2
    obtain ⟨g1, g2⟩ := putD_ok (f := fl) (r1.mono s2) h3
    exact ⟨p, C, dx, gs, rfl, h1, c, na, by rw [List.length_map] at hl; exact hl, F2, δ, _, s1.trans s2, a2.put (c' := .ins C dx _ _) ⟨_, upd_same, g1, g2⟩, q⟩)
end
end PD
/-! PD6: what the top has written, by names; packages of calls; the end of a law. -/
namespace PD
open PySem PySem.Spec PyProof.Rows L2
/-- what is known of the top -/
structure TX (fa : List He.Fa) (fn : List He.DefD) (ex : PySem.W.Frag → Bool) (K : PySem.W.Frag) (mg : Str → Option Value) : Prop where
  glo : ∀ x, He.Fa.glo x ∈ fa → mg x = some (.ref (He.ga K x))
  free : ∀ x, He.Fa.free x ∈ fa → mg x = none
  fact : ∀ f ∈ fa, f.ok K = true
  defs : ∀ d ∈ fn, ∃ fd, FunD K d.name d.qual d.params d.body d.scope (d.dvs K) (d.kws K) (He.fAd K d.at_) fd
  more : ex K = true
section
variable {fa : List He.Fa} {fn : List He.DefD} {ex : PySem.W.Frag → Bool} {K : PySem.W.Frag} {mg : Str → Option Value}
theorem TX.g (T : TX fa fn ex K mg) (i : Nat) {x : Str} (h : fa[i]? = some (.glo x) := by rfl) : mg x = some (.ref (He.ga K x)) := T.glo x (List.mem_of_getElem? h)
theorem TX.f (T : TX fa fn ex K mg) (i : Nat) {x : Str} (h : fa[i]? = some (.free x) := by rfl) : mg x = none := T.free x (List.mem_of_getElem? h)
theorem TX.a (T : TX fa fn ex K mg) (i : Nat) {f : He.Fa} (h : fa[i]? = some f := by rfl) : f.ok K = true := T.fact f (List.mem_of_getElem? h)
theorem TX.d (T : TX fa fn ex K mg) (i : Nat) {d : He.DefD} (h : fn[i]? = some d := by rfl) : ∃ fd, FunD K d.name d.qual d.params d.body d.scope (d.dvs K) (d.kws K) (He.fAd K d.at_) fd := T.defs d (List.mem_of_getElem? h)
theorem tx_of {ts : List He.Tab} {tf : List He.Defn} {w : World} {h h' : Heap} (X : K.In h) (G : h.Ns mainGlobals mg) (c : He.SaysX fa fn ts tf ex w h' K) : TX fa fn ex K mg where
  glo := fun x hx => He.glo_ok X G (c.t.d.facts hx)
  free := fun x hx => He.free_ok X G (c.t.d.facts hx)
  fact := fun f hf => c.t.d.facts hf
  defs := fun d hd => c.t.d.defs hd
  more := c.more
end
/-- a def that may be called: dds the defaults that fill up -/
structure CallX (b : Bool) (P : Program) (w : World) (K : PySem.W.Frag) (mg : Str → Option Value) (base : Heap) (k : Nat) (f : Addr) (n : Nat) (dds : List D) (sp : SpD) : Prop where
  ex : ∃ (fd : FuncData) (ps : List Str) (dvs : List V) (dus : List Value), ps.length = n ∧ Binds K fd ps dus ∧ Vals dvs dus ∧ DfD K dds dvs ∧ FnD b P w K mg base k f fd ps sp
  kp : PySem.W.keepIn K (.ref f) = true
/-- a def that lets out only what has None for its context -/
structure CallD (P : Program) (w : World) (K : PySem.W.Frag) (mg : Str → Option Value) (base : Heap) (k : Nat) (f : Addr) (n : Nat) (dds : List D) (sp : SpD) : Prop where
  at_ : ∀ b, CallX b P w K mg base k f n dds sp
/-- a def that may let out any exception -/
structure CallF (P : Program) (w : World) (K : PySem.W.Frag) (mg : Str → Option Value) (base : Heap) (k : Nat) (f : Addr) (n : Nat) (dds : List D) (sp : SpD) : Prop where
  x : CallX false P w K mg base k f n dds sp
theorem CallF.at_ {P : Program} {w : World} {K : PySem.W.Frag} {mg : Str → Option Value} {base : Heap} {k : Nat} {f : Addr} {n : Nat} {dds : List D} {sp : SpD} (c : CallF P w K mg base k f n dds sp) (b : Bool) (h : b = false := by rfl) : CallX b P w K mg base k f n dds sp := by
  subst h; exact c.x
section
variable {P : Program} {w : World} {K : PySem.W.Frag} {mg : Str → Option Value} {base : Heap} {k : Nat} {f : Addr} {sp : SpD} {x qual : Str} {params : Arguments} {body : List Stmt} {scope : Scope} {kws : List (Str × V)} {fd : FuncData} {ps : List Str}
theorem CallD.mk0 (F : FunD K x qual params body scope [] kws f fd)
    (h : ∀ (kV doc pm : Value) (an : Option Addr) (cdv ct : Value) (us : List Value), us.length = ps.length → bindArgs (PySem.W.fnOf x qual params body scope .none kV doc pm an cdv ct) ⟨us, []⟩ = pure (ps.zip us)) (G : ∀ {b : Bool}, FnD b P w K mg base k f fd ps sp) : CallD P w K mg base k f ps.length [] sp :=
  ⟨fun b => ⟨⟨fd, ps, [], [], rfl, F.bindsN h, .nil, DfD.nil, G⟩, F.kp⟩⟩
end
section
variable {Γ : Ct} {δ : Dl} {μ : Mu} {Q : D → Mu → Prop} {pos : Pos} {k j n : Nat} {f C : Addr} {sp : SpD} {dds : List D} {x m : Str} {p apos : Pos} {e o : Expr} {es : List Expr}
theorem ed_callC (Cd : CallX Γ.nn Γ.X.prog Γ.X.w Γ.X.K Γ.X.mg Γ.X.base k f n dds sp) (hr : Room j Γ.X.A) (hkj : k ≤ j) (hm : Γ.X.mg x = some (.ref f)) (h : ea Γ (e :: es) δ μ fun ds μ1 => (ds ++ dds).length = n ∧ sp (ds ++ dds) μ1 Q fun cls ns xs μ' => Γ.W cls ns xs δ μ') (hg : Gl Γ.X x := by rfl)
    (hdb : (x == ("__debug__" : Str)) = false := by decide +kernel) (he : starEach (e :: es) Γ.X.env = (false, eval e Γ.X.env) :: starEach es Γ.X.env := by rfl) (hpl : (backTo pos (starEach es Γ.X.env)).any (·.1) = false := by rfl) :
    ed Γ (.Call (.Name x p) (e :: es) [] pos) δ μ Q := by
  obtain ⟨fd, ps, dvs, dus, hl, b, v, d, G⟩ := Cd.ex
  subst hl
  exact ed_call G (hr.mono hkj) hm Cd.kp b v d h hg hdb he hpl
end
/-! ### the end of a law -/
/-- law's promise: a list of at most 63 ints of at most 1048576 bits each is handed in, True comes out -/
def spLaw : SpD := fun ds μ Q _ => ∃ ns : List Int, ds = [.rl (ns.map .int)] ∧ μ = [] ∧ ns.length ≤ 63 ∧ (∀ z ∈ ns, Builtin.Int.intBits z ≤ 1048576) ∧ ∀ μ', Q (.bl true) μ'
/-- from law's promise to its call by the claim's caller -/
theorem law_go {P : Program} {w : World} {K : PySem.W.Frag} {mg mb : Str → Option Value} {k : Nat} {fa a : Addr} {fd : FuncData} {x : Str} {sp : Sp} {s₁ : Shared} {vs : List Value} {ns : List Int}
    (KX : K.In s₁.heap) (hns : s₁.heap.Ns mainGlobals mg) (hb : s₁.heap.Ns builtinsNs mb) (hbb : ∀ x : Str, x ≠ "__name__" → mb x = bootBuiltins x) (hlim : s₁.heap.NoLimit) (hg : s₁.gens = #[]) (ha : s₁.heap.get? a = some { cls := .type "list", data := .seq vs.toArray })
    (hi : IntsAre vs ns) (hl : ns.length ≤ sizeLine) (hr : Room k callerA) (F : ∀ base : Heap, K.In base → base.Ns mainGlobals mg → FnOk P w K mg base false k fa fd [x] sp) (hbind : ∀ (s : Shared) (u : Value), BindsTo s fd ⟨[u], []⟩ [(x, u)])
    (hsp : ∀ H : Hp, SqL K H a (ns.map V.int) → sp [.ref a] H (fun v _ => v = .bl true) fun _ _ _ => False) :
    codeAny (model P w) callerA (.call (.ref fa) ⟨[.ref a], []⟩) (fun r s' => r = .ok (.ret (.bool true)) ∧ OldK s₁.heap s'.heap ∧ s'.os = s₁.os ∧ AllBare s'.gens) s₁ := by
  have rel := vals_ints hi
  let O : Obj := { cls := .type "list", data := .seq vs.toArray }
  have z1 : ((ns.map V.int).length : Nat) ≤ sizeLine := by rw [List.length_map]; exact hl
  -- the abstract heap: the script alone, unless it is one of the module's own things
  have go : ∀ H : Hp, (∀ c, H c = none ∨ (c = a ∧ K.lookup a = none ∧ H c = some (.frz O (.lst (ns.map V.int))))) → SqL K H a (ns.map V.int) → codeAny (model P w) callerA (.call (.ref fa) ⟨[.ref a], []⟩) (fun r s' => r = .ok (.ret (.bool true)) ∧ OldK s₁.heap s'.heap ∧ s'.os = s₁.os ∧ AllBare s'.gens) s₁ := fun H only seq => by
    have ok : HOk P w H s₁.heap := fun c u e => by
      rcases only c with q | ⟨rfl, _, q⟩
      · rw [q] at e; cases e
      · rw [q] at e; cases e
        exact ⟨ha, z1, vs, _, rel, ha⟩
    have hid : ∀ {c : Addr} {o : Obj}, s₁.heap.get? c = some o → (c = a → K.lookup a = none → False) → (hidT s₁.heap H).get? c = some o := fun {c o} e n => hidT_get e (by
      rcases only c with q | ⟨q1, q2, _⟩
      · exact q
      · exact (n q1 q2).elim)
    have noDict : ∀ {c : Addr} {m : Str → Option Value}, s₁.heap.Ns c m → (hidT s₁.heap H).Ns c m := fun {c m} ⟨o, es, ep, e, d, r⟩ => ⟨o, es, ep, hid e (fun q _ => by
      subst q
      rw [ha] at e
      cases e
      cases (show Data.seq vs.toArray _ = Data.dict es ep from d)), d, r⟩
    have kin : K.In (hidT s₁.heap H) := fun c o e => hid (KX c o e) fun q n => by
      subst q
      rw [n] at e; cases e
    obtain ⟨mc, l1, l2⟩ := hlim
    have e0 : Env0 P w K mg (hidT s₁.heap H) callerA [] s₁ H := ⟨rfl, ⟨kin, noDict hns, ⟨mb, noDict hb, hbb⟩, mc, noDict l1, l2⟩, fun c o e => of_hidT e, Nat.le_of_eq (hidT_size _ _), trivial, fun c hc => (List.not_mem_nil hc).elim, ok, .of_eq hg⟩
    refine codeAny_mono ((F _ kin (noDict hns)).run callerA [] s₁ H ⟨[.ref a], []⟩ [.ref a] [.ref a] _ _ hr e0 (hbind s₁ (.ref a)) (.cons rfl .nil) (hsp H seq)) fun r s' z => ?_
    match r, z with
    | .error e, z =>
      obtain ⟨_, _, _, _, _, _, _, _, _, _, _, _, z⟩ := z
      exact z.elim
    | .ok (.ret u), z =>
      obtain ⟨v, H', os, bare, un, ok', rv, q⟩ := z
      obtain rfl : v = V.bl true := q
      obtain rfl : u = Value.bool true := rv
      refine ⟨rfl, OldK.of_keep fun c o e => ?_, os, bare⟩
      rcases only c with q | ⟨_, _, q⟩
      · exact un.keep c o e q (fun n => (List.not_mem_nil (show c ∈ ([] : List Addr) from n)).elim) (fun n => nomatch n)
      · have e1 := (ok c _ q).1
        have e2 := (ok' c _ (un.frzs c O _ q)).1
        rw [e] at e1
        cases e1
        exact e2
  cases hk : K.lookup a with
  | some o =>
    have e := KX a o hk
    rw [ha] at e
    cases e
    exact go (fun _ => none) (fun _ => .inl rfl) (.inr ⟨O, vs.toArray, _, hk, rfl, rfl, rfl, by rw [List.size_toArray, hi.length]; exact hl, by simpa using rel⟩)
  | none =>
    refine go (fun c => if c = a then some (.frz O (.lst (ns.map V.int))) else none) (fun c => ?_) (.inl (.inr ⟨O, if_pos rfl⟩))
    by_cases q : c = a
    · exact .inr ⟨q, hk, if_pos q⟩
    · exact .inl (if_neg q)
theorem walk_pd {l : PySem.W.OpenLaw} {n k : Nat} {q : Program} {loose : List Str} {XP : (Str → Option Value) → Heap → Prop} {YP : World → Heap → Prop} {d : DefRec} {x : Str}
    (hn : l.most = some 63) (hdf : d.params.defaults = []) (hr : L2.Room k callerA)
    (F : ∀ (w : World) (mg : Str → Option Value) (fa : Addr) (h : Heap), YP w h → h.Ns mainGlobals mg → mg d.name = some (.ref fa) →
      ∃ (K : PySem.W.Frag) (fd : FuncData), K.In h ∧ (∀ (s : Shared) (u : Value), BindsTo s fd ⟨[u], []⟩ [(x, u)]) ∧
        ∀ base : Heap, K.In base → base.Ns mainGlobals mg → FnD false l.prog w K mg base k fa fd [x] spLaw) :
    PySem.W.WalkO q loose XP YP l.row.toRowW d [] (fun f vs => PySem.call f vs) := by
  refine Att.attach_callB hn hdf fun w s₀ s₁ mg mb fa o pm cd doc a vs ns G Y ho hd hcd hmg hobj hints hlen hbits hg => ?_
  obtain ⟨K, fd, KX, hb, hF⟩ := F w mg fa _ Y G.T.g hmg
  refine law_go (K := K) (k := k) (x := x) KX G.T.g G.T.b G.T.builtins G.T.nolimit hg hobj hints (Nat.le_trans hlen (by decide)) ⟨hr, rfl⟩ hF hb (fun H hS => ?_)
  refine ⟨H, [], [.rl (ns.map .int)], fun d _ => d = .bl true, fun _ _ _ _ => False, ⟨Same.refl H, fun c hc => (nomatch hc), List.nodup_nil, fun c hc => (nomatch hc)⟩, Dps.cons (by rw [Dp]; exact ⟨a, ns.map V.int, rfl, hS, Dps.of_ints⟩) Dps.nil, rfl, ⟨ns, rfl, rfl, hlen, hbits, fun _ => rfl⟩, fun v H' F' μ' d _ _ rd e => ?_, fun _ _ _ _ _ _ _ _ _ _ z => z⟩
  rw [e] at rd
  exact dpB rd
end PD
/-! PD7: == seen through owned lists; small facts about data. -/
namespace PD
open PySem PySem.Spec PyProof.Rows L2
/-- an owned list seen as its items -/
inductive Vw (μ : Mu) : D → D → Prop where
  | same (x : D) : Vw μ x x
  | own {p : Addr} {xs : List D} (h : (p, Cell.lst xs) ∈ μ) : Vw μ (.ref p) (.lst xs)
section
variable {Γ : Ct} {δ : Dl} {μ : Mu} {Q : D → Mu → Prop} {x y x' y' : D}
theorem Vw.dp {F H : Hp} {σ : L2.St} {v : V} (a : At Γ F δ μ σ H) (h : Vw μ x x') (hx : x'.ok = true) (r : Dp Γ.X.K F x v) : L2.Dp Γ.X.K H v x'.py := by
  cases h with
  | same => exact D.ok_dp a.sx.sub hx r
  | own hm =>
    rw [dpR r]
    obtain ⟨vs, h1, h2⟩ := a.sx.cells _ hm
    rw [D.ok] at hx
    rw [D.py]
    exact .lst (.inl (.inl h1)) (D.oks_dp a.sx.sub hx h2)
theorem opd_eqV (hu : Γ.X.A.units + 64 < cLine) (h1 : Vw μ x x') (h2 : Vw μ y y') (hx : x'.ok = true) (hy : y'.ok = true) (dx : x'.py.depth ≤ 64) (dy : y'.py.depth ≤ 64) (q : Q (.bl (eqD x' y')) μ) : opd Γ (compareOp .Eq) x y δ μ Q := opd_of (op_eqD hu) fun F σ H vx vy a r1 r2 =>
  ⟨x'.py, y'.py, h1.dp a hx r1, h2.dp a hy r2, by unfold SeqAt.shaped; rw [D.ok_lay hx, decide_eq_true dx]; rfl, by unfold SeqAt.shaped; rw [D.ok_lay hy, decide_eq_true dy]; rfl, PostE.here a dpb q⟩
theorem opd_neV (hu : Γ.X.A.units + 64 < cLine) (h1 : Vw μ x x') (h2 : Vw μ y y') (hx : x'.ok = true) (hy : y'.ok = true) (dx : x'.py.depth ≤ 64) (dy : y'.py.depth ≤ 64) (q : Q (.bl (!eqD x' y')) μ) : opd Γ (compareOp .NotEq) x y δ μ Q := opd_of (op_neD hu) fun F σ H vx vy a r1 r2 =>
  ⟨x'.py, y'.py, h1.dp a hx r1, h2.dp a hy r2, by unfold SeqAt.shaped; rw [D.ok_lay hx, decide_eq_true dx]; rfl, by unfold SeqAt.shaped; rw [D.ok_lay hy, decide_eq_true dy]; rfl, PostE.here a dpb q⟩
end
theorem oks_ints : ∀ (l : List Int), D.oks (l.map .int) = true
  | [] => by rw [List.map_nil, D.oks]
  | z :: l => by rw [List.map_cons, D.oks, D.ok, oks_ints l]; rfl
theorem depthAll_ints : ∀ (l : List Int), PyData.depthAll (D.pys (l.map .int)) ≤ 1
  | [] => by rw [List.map_nil, D.pys, PyData.depthAll]; omega
  | z :: l => by
    have := depthAll_ints l
    rw [List.map_cons, D.pys, D.py, PyData.depthAll, PyData.depth]; omega
theorem depth_ints (l : List Int) : (D.lst (l.map .int)).py.depth ≤ 64 := by
  have := depthAll_ints l
  rw [D.py, PyData.depth]; omega
theorem ok_ints (l : List Int) : (D.lst (l.map .int)).ok = true := by rw [D.ok]; exact oks_ints l
theorem eqD_nil (xs : List D) : eqD (.lst xs) (.lst []) = xs.isEmpty := by
  unfold eqD
  cases xs with
  | nil => rfl
  | cons x xs =>
    show PyData.eqv (.list (D.pys (x :: xs))) (.list (D.pys [])) = false
    rw [D.pys, D.pys, PyData.eqv, PyData.eqvAll]
theorem nil_or_snoc {α : Type} (l : List α) : l = [] ∨ ∃ l0 z, l = l0 ++ [z] := by
  rcases List.eq_nil_or_concat l with h | ⟨l0, z, h⟩
  · exact .inl h
  · exact .inr ⟨l0, z, by rw [h, List.concat_eq_append]⟩
theorem exB {b : Bool} {P : Bool → Prop} (h : P b) : ∃ c, D.bl b = D.bl c ∧ P c := ⟨b, rfl, h⟩
theorem exI {b : Int} {P : Int → Prop} (h : P b) : ∃ c, D.int b = D.int c ∧ P c := ⟨b, rfl, h⟩
theorem small_lt {n : Nat} (h : n < 100000) : n < sizeLine := Nat.lt_of_lt_of_le h (by decide)
theorem small_le {n : Nat} (h : n ≤ 100000) : n ≤ sizeLine := Nat.le_trans h (by decide)
/-- a word between a statement and the rest -/
theorem sds_cut {Γ : Ct} {δ : Dl} {μ : Mu} {E : En} {st : Stmt} {rest : List Stmt} (M : Dl → Mu → Prop) (h : sd Γ st δ μ { E with nx := M }) (k : ∀ δ' μ', M δ' μ' → sds Γ rest δ' μ' E) : sds Γ (st :: rest) δ μ E :=
  sds_cons (sd_mono h ⟨k, fun _ _ z => z, fun _ _ z => z, fun _ _ z => z⟩)
theorem atI_last' {α : Type} (xs : List α) (v : α) : atI (xs ++ [v]) (-1) = some v := atI_last xs v
theorem map_concat_int (l : List Int) (z : Int) : (l ++ [z]).map D.int = l.map D.int ++ [.int z] := by rw [List.map_append]; rfl
end PD
namespace PD
open PySem PySem.Spec PyProof.Rows L2
/-- a def's own name: its place, its kind -/
structure Nm (N : List Str) (sc : Scope) (i : Nat) (x : Str) : Prop where
  at_ : N[i]? = some x
  loc : sc.names.lookup x = some .local ∨ sc.names.lookup x = some .cell
  dbg : (x == ("__debug__" : Str)) = false
  cls : (x == ("__classdict__" : Str)) = false
section
variable {Γ Γ0 : Ct} {N : List Str} {sc scope : Scope} {i : Nat} {x : Str} {d : D} {δ : Dl} {μ : Mu} {Q : D → Mu → Prop} {R : Dl → Mu → Prop} {pos : Pos} {E : En} {s : Shared} {H : Hp} {C : Addr} {cl : List (Str × Addr)} {fp : List Addr} {F0 : Hp} {μ0 : Mu} {H0 : Hp} {vs : List Nat}
theorem Nm.vis (n : Nm N sc i x) (e : Γ.X.env.scope = sc) : Vis Γ.X.env.scope x := by
  rw [e]; rcases n.loc with h | h
  · exact .inl h
  · exact .inr (.inl h)
theorem Nm.locl (n : Nm N sc i x) (e : Γ.X.env.scope = sc) : Loc Γ.X.env.scope x := by rw [e]; exact n.loc
theorem ed_nm (n : Nm N sc i x) (q : δ[i]? = some (some d)) (h : Q d μ) (e : Γ.X.env.scope = sc := by rfl) (e2 : Γ.X.N = N := by rfl) : ed Γ (.Name x pos) δ μ Q := ed_name (by rw [e2]; exact n.at_) q h (n.vis e) n.dbg n.cls
/-- in a comprehension's block -/
theorem ed_nmB (n : Nm N sc i x) (q : δ[i]? = some (some d)) (h : Q d μ) (v : ((relS scope sc).names.lookup x = some .local ∨ (relS scope sc).names.lookup x = some .cell) ∨ (relS scope sc).names.lookup x = some .free := by decide +kernel) (e : Γ0.X.env.scope = sc := by rfl) (e2 : Γ0.X.N = N := by rfl) :
    ed (Γ0.blk scope s H C cl fp F0 μ0 H0) (.Name x pos) δ μ Q := by
  refine ed_name (i := i) ?_ q h ?_ n.dbg n.cls
  · show Γ0.X.N[i]? = some x
    rw [e2]; exact n.at_
  · have e3 : (Γ0.blk scope s H C cl fp F0 μ0 H0).X.env.scope = relS scope sc := by rw [← e]; rfl
    rw [e3]
    rcases v with (v | v) | v
    · exact .inl v
    · exact .inr (.inl v)
    · exact .inr (.inr v)
theorem gd_nm (n : Nm N sc i x) (hN : N.Nodup) (h : R (δ.set i (some d)) μ) (hf : Γ.X.fn x = true := by rfl) (e : Γ.X.env.scope = sc := by rfl) (e2 : Γ.X.N = N := by rfl) : gd Γ (.Name x pos) d δ μ R := gd_name (by rw [e2]; exact hN) (by rw [e2]; exact n.at_) h (n.locl e) (.inl hf)
theorem sd_nm {e' : Expr} {pos' : Pos} (n : Nm N sc i x) (hN : N.Nodup) (h : ed Γ e' δ μ fun d μ' => E.nx (δ.set i (some d)) μ') (hs : swapsWith e' (some (.Name x pos')) pos.line Γ.X.env = pure false := by rfl) (hf : Γ.X.fn x = true := by rfl) (e : Γ.X.env.scope = sc := by rfl) (e2 : Γ.X.N = N := by rfl) :
    sd Γ (.Assign [.Name x pos'] e' pos) δ μ E := sd_set (by rw [e2]; exact hN) (by rw [e2]; exact n.at_) h hs (n.locl e) (.inl hf)
theorem gl_of (h : sc.names.lookup x = some .globalImplicit) (e : Γ.X.env.scope = sc := by rfl) : Gl Γ.X x := by
  show Γ.X.env.scope.names.lookup x = _
  rw [e]; exact h
theorem glB_of (h : (relS scope sc).names.lookup x = some .globalImplicit := by decide +kernel) (e : Γ0.X.env.scope = sc := by rfl) : Gl (Γ0.blk scope s H C cl fp F0 μ0 H0).X x := by
  have e3 : (Γ0.blk scope s H C cl fp F0 μ0 H0).X.env.scope = relS scope sc := by rw [← e]; rfl
  show (Γ0.blk scope s H C cl fp F0 μ0 H0).X.env.scope.names.lookup x = _
  rw [e3]; exact h
end
/-- a name that a comprehension's block stores -/
structure NmB (N : List Str) (i : Nat) (x : Str) : Prop where
  at_ : N[i]? = some x
  dbg : (x == ("__debug__" : Str)) = false
  cls : (x == ("__classdict__" : Str)) = false
section
variable {Γ Γ0 : Ct} {N : List Str} {sc scope : Scope} {i : Nat} {x : Str} {d : D} {δ : Dl} {μ : Mu} {Q : D → Mu → Prop} {R : Dl → Mu → Prop} {pos : Pos} {s : Shared} {H : Hp} {C : Addr} {cl : List (Str × Addr)} {fp : List Addr} {F0 : Hp} {μ0 : Mu} {H0 : Hp} {vs : List Nat}
theorem ed_nmC (n : NmB N i x) (q : δ[i]? = some (some d)) (h : Q d μ) (v : ((relS scope sc).names.lookup x = some .local ∨ (relS scope sc).names.lookup x = some .cell) ∨ (relS scope sc).names.lookup x = some .free := by decide +kernel) (e : Γ0.X.env.scope = sc := by rfl) (e2 : Γ0.X.N = N := by rfl) :
    ed (Γ0.blk scope s H C cl fp F0 μ0 H0) (.Name x pos) δ μ Q := by
  refine ed_name (i := i) ?_ q h ?_ n.dbg n.cls
  · show Γ0.X.N[i]? = some x
    rw [e2]; exact n.at_
  · have e3 : (Γ0.blk scope s H C cl fp F0 μ0 H0).X.env.scope = relS scope sc := by rw [← e]; rfl
    rw [e3]
    rcases v with (v | v) | v
    · exact .inl v
    · exact .inr (.inl v)
    · exact .inr (.inr v)
theorem gv_nmC (n : NmB N i x) (hN : N.Nodup) (hv : i ∈ vs) (h : R (δ.set i (some d)) μ) (v : (relS scope sc).names.lookup x = some .local ∨ ((relS scope sc).names.lookup x = some .cell ∧ scope.names.lookup x = some .cell) := by decide +kernel) (e : Γ0.X.env.scope = sc := by rfl) (e2 : Γ0.X.N = N := by rfl) :
    gv (Γ0.blk scope s H C cl fp F0 μ0 H0) (.Name x pos) d vs δ μ R := by
  have e3 : (Γ0.blk scope s H C cl fp F0 μ0 H0).X.env.scope = relS scope sc := by rw [← e]; rfl
  refine gv_name (i := i) (by show Γ0.X.N.Nodup; rw [e2]; exact hN) (by show Γ0.X.N[i]? = some x; rw [e2]; exact n.at_) hv h ?_ ?_
  · rw [e3]; rcases v with v | v
    · exact .inl v
    · exact .inr v.1
  · rw [e3]; rcases v with v | v
    · exact .inr v
    · refine .inl ?_
      show (scope.names.lookup x == some .cell) = true
      rw [v.2]; rfl
end
end PD
namespace PD
open PySem
theorem bb_len : bootBuiltins "len" = some (.builtin "len") := by decide +kernel
theorem bb_abs : bootBuiltins "abs" = some (.builtin "abs") := by decide +kernel
theorem bb_isinstance : bootBuiltins "isinstance" = some (.builtin "isinstance") := by decide +kernel
theorem bb_all : bootBuiltins "all" = some (.builtin "all") := by decide +kernel
theorem bb_sorted : bootBuiltins "sorted" = some (.builtin "sorted") := by decide +kernel
theorem bb_int : bootBuiltins "int" = some (.type "int") := by decide +kernel
theorem bb_str : bootBuiltins "str" = some (.type "str") := by decide +kernel
theorem bb_list : bootBuiltins "list" = some (.type "list") := by decide +kernel
theorem bb_tuple : bootBuiltins "tuple" = some (.type "tuple") := by decide +kernel
theorem bb_bool : bootBuiltins "bool" = some (.type "bool") := by decide +kernel
theorem bb_set : bootBuiltins "set" = some (.type "set") := by decide +kernel
theorem bb_range : bootBuiltins "range" = some (.type "range") := by decide +kernel
theorem bb_enumerate : bootBuiltins "enumerate" = some (.type "enumerate") := by decide +kernel
end PD
/-! PD8: xs[::-1]; parallel stores. -/
namespace PD
open PySem PySem.Spec PyProof.Rows L2
section
variable {Γ : Ct} {δ : Dl} {μ : Mu} {Q : D → Mu → Prop} {e : Expr} {pos : Pos}
/-- e[::-1], owned -/
theorem ed_revO {k : Nat} {p1 p2 p3 : Pos} (h : ed Γ e δ μ fun x μ' => ∃ xs, x = .lst xs ∧ ∀ p, Q (.ref p) ((p, .lst xs.reverse) :: μ')) : ed Γ (.Subscript e (.Slice none none (some (.UnaryOp .USub (.Constant (.int 1) k p1) p2)) p3) pos) δ μ Q := fun F σ H a =>
  we_of (pe_revL pe_we) (we_mono (h F σ H a) fun v H1 ⟨F1, x, μ1, s1, a1, r1, xs, e1, q⟩ => by
    subst e1
    obtain ⟨p0, vs, rfl, h1, h2⟩ := dpL r1
    exact ⟨p0, vs, rfl, .inl (.inl (a1.sx.sub _ _ h1)), fun p hp => PostE.up s1 (PostE.own (c := .lst xs.reverse) a1 hp ⟨_, upd_same, h2.reverse⟩ (q p))⟩)
/-- e[::-1], known -/
theorem ed_rev {k : Nat} {p1 p2 p3 : Pos} (h : ed Γ e δ μ fun x μ' => ∃ xs, x = .lst xs ∧ Q (.lst xs.reverse) μ') : ed Γ (.Subscript e (.Slice none none (some (.UnaryOp .USub (.Constant (.int 1) k p1) p2)) p3) pos) δ μ Q := fun F σ H a =>
  we_of (pe_revL pe_we) (we_mono (h F σ H a) fun v H1 ⟨F1, x, μ1, s1, a1, r1, xs, e1, q⟩ => by
    subst e1
    obtain ⟨p0, vs, rfl, h1, h2⟩ := dpL r1
    exact ⟨p0, vs, rfl, .inl (.inl (a1.sx.sub _ _ h1)), fun p hp => PostE.up s1 (PostE.new a1 hp (dpl upd_same (h2.reverse.mono (same_upd (a1.sx.sub.free hp)))) q)⟩)
end
/-! ### slices of anything -/
def rSlC (K : PySem.W.Frag) : V → Option Int → Option Int → Hp → VK → Prop := fun x lo hi H Q => rSlL K x lo hi H Q ∨ (L2.rSlA K x lo hi H Q ∨ rSlS x lo hi H Q)
theorem sl_c {X : Cx} : SlR X (rSlC X.K) := sl_list.or (sl_tupA.or sl_str)
theorem rSlA_mono (K : PySem.W.Frag) : ∀ x l u H Q Q', (∀ v H', Q v H' → Q' v H') → L2.rSlA K x l u H Q → L2.rSlA K x l u H Q' := fun x l u H Q Q' k h => by
  obtain ⟨a, xs, e, h1, h2, h3⟩ := h
  exact ⟨a, xs, e, h1, fun z => k _ _ (h2 z), fun z p hp => k _ _ (h3 z p hp)⟩
theorem rSlC_mono (K : PySem.W.Frag) : ∀ x l u H Q Q', (∀ v H', Q v H' → Q' v H') → rSlC K x l u H Q → rSlC K x l u H Q' := fun x l u H Q Q' k h => by
  rcases h with h | h | h
  · exact .inl (rSlL_mono K _ _ _ _ _ _ k h)
  · exact .inr (.inl (rSlA_mono K _ _ _ _ _ _ k h))
  · exact .inr (.inr (rSlS_mono _ _ _ _ _ _ k h))
def cutD (xs : List D) (lo hi : Option Int) : List D := (xs.drop (HT.sIx xs.length 0 lo)).take (HT.sIx xs.length xs.length hi - HT.sIx xs.length 0 lo)
section
variable {Γ : Ct} {δ : Dl} {μ : Mu} {Q : D → Mu → Prop} {e : Expr} {pos : Pos}
def slc (Γ : Ct) (x : D) (lo hi : Option Int) (δ : Dl) (μ : Mu) (Q : D → Mu → Prop) : Prop := sld Γ (rSlC Γ.X.K) x lo hi δ μ Q
theorem ed_slc {lo hi : Option Expr} {p2 : Pos} (h : ed Γ e δ μ fun x μ1 => eo Γ lo δ μ1 fun l μ2 => eo Γ hi δ μ2 fun u μ3 => slc Γ x l u δ μ3 Q) : ed Γ (.Subscript e (.Slice lo hi none p2) pos) δ μ Q := ed_slice sl_c (rSlC_mono _) h
theorem slc_lst {xs : List D} {lo hi : Option Int} (q : Q (.lst (cutD xs lo hi)) μ) : slc Γ (.lst xs) lo hi δ μ Q := fun F σ H vx a r => .inl (sld_lst q F σ H vx a r)
theorem slc_rl {xs : List D} {lo hi : Option Int} (q : Q (.lst (cutD xs lo hi)) μ) : slc Γ (.rl xs) lo hi δ μ Q := fun F σ H vx a r => .inl (sld_rl q F σ H vx a r)
theorem slc_str {z : Str} {lo hi : Option Int} (hz : z.length ≤ sizeLine) (q : Q (.str (cutS z lo hi)) μ) : slc Γ (.str z) lo hi δ μ Q := fun F σ H vx a r => .inr (.inr (sld_str hz q F σ H vx a r))
theorem slc_tup {xs : List D} {lo hi : Option Int} (q : Q (.tup (cutD xs lo hi)) μ) : slc Γ (.tup xs) lo hi δ μ Q := fun F σ H vx a r1 => .inr (.inl (by
  obtain ⟨p1, vs, rfl, h1, h2⟩ := dpT r1
  refine ⟨p1, vs, rfl, Same.sqT a.sx.sub h1, fun z => ?_, fun z p hp => ?_⟩
  · refine PostE.here a (d := .tup (cutD xs lo hi)) (dpt h1 ?_) q
    rw [← h2.length] at z
    unfold cutD
    rw [z.1, z.2, List.drop_zero, Nat.sub_zero, List.take_length]
    exact h2
  · have sF := same_upd (o := HO.tup (cutV vs lo hi)) (a.sx.sub.free hp)
    refine PostE.new a hp (dpt (.inl (.inl upd_same)) (Dps.mono sF ?_)) q
    unfold cutV cutD
    rw [← h2.length]
    exact (h2.drop _).take _))
/-- tuples put together -/
theorem opd_catT {xs ys : List D} (hl : xs.length + ys.length ≤ sizeLine) (q : Q (.tup (xs ++ ys)) μ) : opd Γ (binaryOp .Add) (.tup xs) (.tup ys) δ μ Q := opd_of op_catA fun F σ H vx vy a r1 r2 => by
  obtain ⟨p1, vs, rfl, h1, h2⟩ := dpT r1
  obtain ⟨p2, ws, rfl, h3, h4⟩ := dpT r2
  refine ⟨p1, p2, vs, ws, rfl, rfl, Same.sqT a.sx.sub h1, Same.sqT a.sx.sub h3, by rw [← h2.length, ← h4.length]; exact hl, fun z => ?_, fun z1 z2 => ?_, fun z1 z2 p hp => ?_⟩
  · subst z
    have e : xs = [] := List.length_eq_zero_iff.mp (by rw [h2.length]; rfl)
    subst e
    exact PostE.here a (dpt h3 h4) q
  · subst z2
    have e : ys = [] := List.length_eq_zero_iff.mp (by rw [h4.length]; rfl)
    subst e
    rw [List.append_nil] at q
    exact PostE.here a (dpt h1 h2) q
  · have sF := same_upd (o := HO.tup (vs ++ ws)) (a.sx.sub.free hp)
    exact PostE.new a hp (dpt (.inl (.inl upd_same)) ((h2.append h4).mono sF)) q
end
/-! ### x, y = e1, e2 -/
end PD
namespace PD
open PySem PySem.Spec PyProof.Rows L2
section
variable {Γ : Ct} {elt tg iter : Expr} {ifs : List Expr} {scope : Scope} {vs : List Nat} {δ : Dl} {μ : Mu} {Q : List D → Mu → Prop}
theorem take_fm {ds : List D} {i : Nat} {d : D} (f : D → Bool) (g : D → D) (h : ds[i]? = some d) : ((ds.take (i + 1)).filter f).map g = ((ds.take i).filter f).map g ++ (if f d = true then [g d] else []) := by
  rw [List.take_add_one, h]
  show (((ds.take i) ++ [d]).filter f).map g = _
  rw [List.filter_append, List.map_append]
  congr 1
  by_cases q : f d = true
  · rw [if_pos q, List.filter_cons, if_pos q]; rfl
  · rw [if_neg q, List.filter_cons, if_neg q]; rfl
/-- a comprehension that makes of each item g of it, where f holds; the cells stay -/
theorem lcd_fm (f : D → Bool) (g : D → D) (h : eid Γ tg iter δ μ fun ds S μ1 => ds.length ≤ 1000000 ∧ S μ1 ∧
      (∀ d ∈ ds, allB Γ scope fun Γb => gv Γb tg d vs (wipeD δ vs) μ1 fun δ2 μ2 => allB Γ scope fun Γc => eif Γc ifs δ2 μ2 fun b μ3 => b = f d ∧ μ3 = μ1 ∧ (f d = true → allB Γ scope fun Γd => ed Γd elt δ2 μ1 fun r μ4 => r = g d ∧ μ4 = μ1)) ∧ Q ((ds.filter f).map g) μ1) :
    lcd Γ elt tg iter ifs scope vs δ μ Q := fun F σ H a => wi_mono (h F σ H a) fun J H1 ⟨F1, ds, S, μ1, s1, a1, ok, hz, hS, hb, hq⟩ => by
  refine ⟨F1, ds, S, μ1, s1, a1, ok, hz, fun i acc μ' => μ' = μ1 ∧ acc = ((ds.take i).filter f).map g, ⟨rfl, rfl⟩, ?_, ?_, ?_⟩
  · rintro i acc μ' hi ⟨rfl, rfl⟩
    refine ⟨hS, ?_⟩
    rw [List.length_map]
    have h1 := List.length_filter_le f (ds.take i)
    have h2 := List.length_take_le i ds
    omega
  · rintro i d acc μ' hd ⟨rfl, rfl⟩
    intro s H C cl fp F0 μ0 H0 F2 σ2 H2 v a2 r2
    refine wg_mono (hb d (List.mem_of_getElem? hd) s H C cl fp F0 μ0 H0 F2 σ2 H2 v a2 r2) fun σ3 H3 ⟨w3, F3, δ3, μ3, s3, a3, q3⟩ => ⟨w3, F3, δ3, μ3, s3, a3, ?_⟩
    intro s' H' C' cl' fp' F0' μ0' H0'
    have key : ∀ {b : Bool} {μ4 : Mu}, (b = f d ∧ μ4 = μ' ∧ (f d = true → allB Γ scope fun Γd => ed Γd elt δ3 μ' fun r μ5 => r = g d ∧ μ5 = μ')) →
        if b = true then allB Γ scope fun Γd => ed Γd elt δ3 μ4 fun r μ5 => μ5 = μ' ∧ ((ds.take i).filter f).map g ++ [r] = ((ds.take (i + 1)).filter f).map g else μ4 = μ' ∧ ((ds.take i).filter f).map g = ((ds.take (i + 1)).filter f).map g := by
      rintro b μ4 ⟨rfl, rfl, hk⟩
      rw [take_fm f g hd]
      by_cases q : f d = true
      · rw [if_pos q, if_pos q]
        intro s6 H6 C6 cl6 fp6 F6 μ6 H06
        exact ed_mono (hk q s6 H6 C6 cl6 fp6 F6 μ6 H06) fun r μ5 ⟨e1, e2⟩ => ⟨e2, by rw [e1]⟩
      · rw [if_neg q, if_neg q]
        exact ⟨rfl, (List.append_nil _).symm⟩
    have z := q3 s' H' C' cl' fp' F0' μ0' H0'
    match ifs, z with
    | [], z => exact key z
    | [c], z => exact et_mono z fun b μ4 hk => key hk
  · rintro acc μ' ⟨rfl, rfl⟩
    rw [List.take_length]; exact hq
end
end PD
namespace PD
open PySem
section
variable {Γ : Ct} {δ : Dl} {μ : Mu} {Q : Option Int → Mu → Prop} {e : Expr}
theorem eo_none (q : Q none μ) : eo Γ none δ μ Q := q
theorem eo_some (h : ed Γ e δ μ fun d μ' => ∃ i, d = .int i ∧ Q (some i) μ') : eo Γ (some e) δ μ Q := h
end
end PD
namespace PD
open PySem PySem.Spec PyProof.Rows L2
/-! more rules -/
section
variable {Γ : Ct} {e c : Expr} {δ : Dl} {μ : Mu} {Q : Bool → Mu → Prop}
theorem eif_nil (q : Q true μ) : eif Γ [] δ μ Q := q
theorem eif_one (h : et Γ c δ μ Q) : eif Γ [c] δ μ Q := h
end
/-! ### lists of numbers -/
def intOf : D → Int | .int z => z | _ => 0
theorem cut_ints (xs : List Int) (lo hi : Option Int) : ∃ ys : List Int, PD.cutD (xs.map .int) lo hi = ys.map .int ∧ ys.length ≤ xs.length ∧ ∀ y ∈ ys, y ∈ xs := by
  refine ⟨(xs.drop (HT.sIx xs.length 0 lo)).take (HT.sIx xs.length xs.length hi - HT.sIx xs.length 0 lo), ?_, ?_, fun y hy => List.mem_of_mem_drop (List.mem_of_mem_take hy)⟩
  · unfold PD.cutD; rw [List.length_map, ← List.map_drop, ← List.map_take]
  · rw [List.length_take, List.length_drop]; omega
theorem fm_ints (f : D → Bool) (g : D → D) (g' : Int → Int) (hg : ∀ z, g (.int z) = .int (g' z)) (xs : List Int) : (((xs.map D.int).filter f).map g) = ((xs.filter (fun z => f (.int z))).map g').map .int := by
  induction xs with
  | nil => rfl
  | cons x xs ih =>
    rw [List.map_cons, List.filter_cons, List.filter_cons]
    cases h : f (.int x)
    · exact ih
    · show g (.int x) :: _ = D.int (g' x) :: _
      rw [hg, ih]
end PD
/-! PD10: instances that are made; isinstance; membership; constants. -/
namespace PD
open PySem PySem.Spec PyProof.Rows L2
/-! ### an instance that is made -/
section
variable {X : Cx} {b' : Bool} {k : Nat} {C f : Addr} {fd : FuncData} {ps : List Str} {sp : Sp} {dvs : List V} {dus : List Value} {E : XK} {x : Str} {p pos : Pos} {e : Expr} {es : List Expr}
theorem run_makeS {pins : List (Addr × Obj)} {σ : L2.St} {H : Hp} {s : Shared} {Q : VK} {us : List Value} {vs : List V} (M : Mk X.K C f) (G : FnOk X.prog X.w X.K X.mg X.base b' k f fd ps sp) (hr : Room (k + 1) X.A) (hb : Binds X.K fd ps dus) (hd : Vals dvs dus) (hx : PassesAt (CXB b' X.prog X.w) X σ E) (I : Inv X pins σ H s) (r : Vals vs us)
    (h : ∀ a dx, H a = none → H dx = none → dx ≠ a → sp (.ref a :: (vs ++ dvs)) (upd (upd H dx (.own a)) a (.ins C dx [])) (fun v H2 => v = .non ∧ Q (.ref a) H2) E) : wpAny (model X.prog X.w) X.A (call (.ref C) us) (EP X pins σ Q) X.xe s := by
  let n := s.heap.objs.size
  have J := Inv.made (C := C) I
  have hq := h (n + 1) n (I.hok.fresh (Nat.le_succ _)) (I.hok.fresh (Nat.le_refl _)) (Nat.ne_of_lt (Nat.lt_succ_self n))
  have rr : Vals (V.ref (n + 1) :: (vs ++ dvs)) (Value.ref (n + 1) :: (us ++ dus)) := .cons rfl (r.append hd)
  have hn : (Value.ref (n + 1) :: us ++ dus).length = ps.length := (rr.length.symm.trans (G.len _ _ _ _ hq) :)
  have go := G.run _ X.stack _ _ ⟨Value.ref (n + 1) :: us, []⟩ _ _ _ E (hr.make C us []) (J.env0.make C us []) (hb _ (Value.ref (n + 1) :: us) J.kIn hn) rr hq
  refine wpAny_call (make_map (f := f) I.kIn M.makes M.init (beq_iff_eq.mp M.fn) (codeAny_mono go fun res s' z => ?_))
  match res, z with
  | .error e, z => exact hx pins _ _ e s' J z
  | .ok (.ret u), z =>
    obtain ⟨v, H', J', rv, rfl, q⟩ := J.after z
    exact ⟨rv, V.ref (n + 1), H', J', rfl, q⟩
theorem pe_makeS {Eσ : L2.St → XK} {t : TA} (M : Mk X.K C f) (G : FnOk X.prog X.w X.K X.mg X.base b' k f fd ps sp) (hr : Room (k + 1) X.A) (hg : Gl X x) (hm : X.mg x = some (.ref C)) (hb : Binds X.K fd ps dus) (hd : Vals dvs dus) (hx : ∀ σ, PassesAt (CXB b' X.prog X.w) X σ (Eσ σ))
    (ha : PA X (e :: es) t) (hdb : (x == ("__debug__" : Str)) = false) (he : starEach (e :: es) X.env = (false, eval e X.env) :: starEach es X.env) (hpl : (backTo pos (starEach es X.env)).any (·.1) = false) :
    PE X (.Call (.Name x p) (e :: es) [] pos) (fun σ H Q => t σ H fun vs H1 => ∀ a dx, H1 a = none → H1 dx = none → dx ≠ a → sp (.ref a :: (vs ++ dvs)) (upd (upd H1 dx (.own a)) a (.ins C dx [])) (fun v H2 => v = .non ∧ Q (.ref a) H2) (Eσ σ)) where
  run := fun pins s σ H Q I h => wpAny_Call_Name_kw (ld_glob I hg hm (PySem.W.callWith_K (h₀ := X.base) I.ok.mod.kin M.kp (thn (ha.run pos pins s σ H _ I h) fun us s1 ⟨vs, H1, I1, r, q⟩ => ⟨I1.kIn, run_makeS M G hr hb hd (hx σ) I1 r q⟩) he hpl) hdb)
end
/-- the cells with an instance, which is then given up to the data -/
def Frz (Q : D → Mu → Prop) (p C dx : Addr) : D → Mu → Prop := fun d μ' => d = .non ∧ ∃ ns vs μa μb, μ' = μa ++ (p, Cell.ins C dx ns vs) :: μb ∧ Q (.obj C ns vs) (μa ++ μb)
/-- a class whose instances are data: sp what is asked of the arguments (with the defaults) -/
structure MakeD (P : Program) (w : World) (K : PySem.W.Frag) (mg : Str → Option Value) (base : Heap) (k : Nat) (C : Addr) (n : Nat) (dds : List D) (sp : SpD) : Prop where
  ex : ∃ f spI, Mk K C f ∧ CallD P w K mg base k f (n + 1) dds spI ∧ ∀ ds μ Q E, sp ds μ Q E → ∀ p dx, spI (.ref p :: ds) ((p, .ins C dx [] []) :: μ) (Frz Q p C dx) E
section
variable {Γ : Ct} {δ : Dl} {μ : Mu} {Q : D → Mu → Prop} {pos : Pos} {k j n : Nat} {f C : Addr} {sp : SpD} {dds : List D} {x m : Str} {p apos : Pos} {e o : Expr} {es : List Expr}
theorem PostE.frz {F H : Hp} {σ : L2.St} {q dx : Addr} {v : V} (hv : v = .ref q) (h : ∃ F' μ', Same F F' ∧ At Γ F' δ μ' σ H ∧ ∃ ns vs μa μb, μ' = μa ++ (q, Cell.ins C dx ns vs) :: μb ∧ Q (.obj C ns vs) (μa ++ μb)) : PostE Γ F δ σ Q v H := by
  obtain ⟨F', μ', s', a, ns, vs, μa, μb, rfl, q1⟩ := h
  subst hv
  obtain ⟨gs, h1, h2, h3⟩ := a.sx.cells (q, .ins C dx ns vs) mem_mid
  have sF : Same F' (upd F' q (.ins C dx gs)) := same_upd (a.sx.off (q, .ins C dx ns vs) mem_mid)
  exact ⟨_, .obj C ns vs, _, s'.trans sF, a.freeze h1, by rw [Dp]; exact ⟨q, dx, gs, rfl, upd_same, h2, h3.mono sF⟩, q1⟩
theorem ed_makeC (Md : MakeD Γ.X.prog Γ.X.w Γ.X.K Γ.X.mg Γ.X.base k C n dds sp) (hr : Room j Γ.X.A) (hkj : k + 1 ≤ j) (hm : Γ.X.mg x = some (.ref C)) (h : ea Γ (e :: es) δ μ fun ds μ1 => (ds ++ dds).length = n ∧ sp (ds ++ dds) μ1 Q fun cls ns xs μ' => Γ.W cls ns xs δ μ') (hg : Gl Γ.X x := by rfl)
    (hdb : (x == ("__debug__" : Str)) = false := by decide +kernel) (he : starEach (e :: es) Γ.X.env = (false, eval e Γ.X.env) :: starEach es Γ.X.env := by rfl) (hpl : (backTo pos (starEach es Γ.X.env)).any (·.1) = false := by rfl) :
    ed Γ (.Call (.Name x p) (e :: es) [] pos) δ μ Q := by
  obtain ⟨f, spI, M, Cd, hI⟩ := Md.ex
  obtain ⟨fd, ps, dvs, dus, hl, b, v, dd, G⟩ := (Cd.at_ Γ.nn).ex
  intro F σ H a
  refine we_of (pe_makeS (Eσ := fun σ cls dx H' => WofD Γ.X.K Γ.F0 Γ.μ0 Γ.H0 Γ.W cls dx σ H') M G (hr.mono hkj) hg hm b v (fun σ => passAt Γ.tk σ) pa_wa hdb he hpl) (wa_mono (h F σ H a) fun vs H1 ⟨F1, ds, μ1, s1, a1, r1, hn, q⟩ q' dx hq hdx hne => ?_)
  have a2 : At Γ F1 δ ((q', Cell.ins C dx [] []) :: μ1) σ (upd (upd H1 dx (.own q')) q' (.ins C dx [])) := (a1.ext (same_upd hdx)).own (by rw [upd_ne (Ne.symm hne)]; exact hq) ⟨[], upd_same, rfl, Dps.nil⟩
  have r2 : Dps Γ.X.K F1 (.ref q' :: (ds ++ dds)) (.ref q' :: (vs ++ dvs)) := Dps.cons dpr (r1.append (dd F1))
  refine ⟨F1, _, _, Frz Q q' C dx, _, a2.sx, r2, by rw [hl, List.length_cons, hn], hI _ _ _ _ q q' dx, fun v H' F' μ' d st sx rd z => ?_, fun cls dx' H' F' μ' ns xs st sx xo z => ⟨F', μ', δ, ns, xs, a2.st.trans st, sx, a2.fr.mono st.ext, xo, z⟩⟩
  obtain ⟨rfl, z⟩ := z
  exact ⟨by rw [Dp] at rd; exact rd, PostE.frz rfl ⟨F', μ', s1.trans st.ext, ⟨a2.st.trans st, sx, a2.fr.mono st.ext⟩, z⟩⟩
end
/-! ### constants of the top -/
theorem allK {K : PySem.W.Frag} {fs : List (PySem.W.Frag → Bool)} (h : (fs.all fun f => f K) = true) (i : Nat) {f : PySem.W.Frag → Bool} (e : fs[i]? = some f := by rfl) : f K = true := List.all_eq_true.mp h f (List.mem_of_getElem? e)
/-- a tuple at an address -/
def tupAB (K : PySem.W.Frag) (a : Addr) (vs : List He.Dv) : Bool := match K.lookup a with
  | some o => decide (o.cls = .type "tuple") && (match o.data with
    | .seq its _ => decide (its.size ≤ sizeLine) && He.relAll (vs.map (He.Dv.v K)) its.toList
    | _ => false)
  | none => false
theorem tupAB_ok {K : PySem.W.Frag} {a : Addr} {vs : List He.Dv} (h : tupAB K a vs = true) (H : Hp) : SqT K H a (vs.map (He.Dv.v K)) := by
  unfold tupAB at h
  split at h
  · next o e =>
    obtain ⟨h1, h2⟩ := Bool.and_eq_true_iff.mp h
    split at h2
    · next its n e2 =>
      obtain ⟨h3, h4⟩ := Bool.and_eq_true_iff.mp h2
      exact .inr ⟨o, its, n, e, of_decide_eq_true h1, e2, of_decide_eq_true h3, He.relAll_ok h4⟩
    · cases h2
  · cases h
def strDv (ys : List Str) : List He.Dv := ys.map .str
theorem dps_strs {K : PySem.W.Frag} {F : Hp} : ∀ ys : List Str, Dps K F (ys.map .str) ((strDv ys).map (He.Dv.v K))
  | [] => Dps.nil
  | y :: ys => Dps.cons dps (dps_strs ys)
theorem dp_tupS {K : PySem.W.Frag} {a : Addr} {ys : List Str} (h : tupAB K a (strDv ys) = true) (F : Hp) : Dp K F (.tup (ys.map .str)) (.ref a) := dpt (tupAB_ok h F) (dps_strs ys)
section
variable {Γ : Ct} {δ : Dl} {μ : Mu} {Q : D → Mu → Prop} {pos : Pos} {x : Str} {a : Addr}
/-- a name of the top that is an object: a class, a def, a constant -/
theorem ed_gref (hm : Γ.X.mg x = some (.ref a)) (q : Q (.ref a) μ) (hg : Gl Γ.X x := by rfl) (hd : (x == ("__debug__" : Str)) = false := by decide +kernel) : ed Γ (.Name x pos) δ μ Q := ed_glob hm (v := .ref a) rfl (fun _ => dpr) q hg hd
theorem ed_gtup {ys : List Str} (hm : Γ.X.mg x = some (.ref a)) (h : tupAB Γ.X.K a (strDv ys) = true) (q : Q (.tup (ys.map .str)) μ) (hg : Gl Γ.X x := by rfl) (hd : (x == ("__debug__" : Str)) = false := by decide +kernel) : ed Γ (.Name x pos) δ μ Q := ed_glob hm (v := .ref a) rfl (dp_tupS h) q hg hd
/-- a built-in type as a value -/
theorem ed_ty {n : String} (hm : Γ.X.mg x = none) (hv : bootBuiltins x = some (.type n)) (q : Q (.ty n) μ) (hg : Gl Γ.X x := by rfl) (hn : x ≠ "__name__" := by decide +kernel) (hd : (x == ("__debug__" : Str)) = false := by decide +kernel) : ed Γ (.Name x pos) δ μ Q := fun F σ H h =>
  we_of (pe_bltn (v := .ty n) hg hm hv rfl hn hd) (PostE.here (v := .ty n) h (by rw [Dp]) q)
end
/-! ### isinstance -/
/-- an own class whose instances tell their class -/
structure ClsT (K : PySem.W.Frag) (C : Addr) : Prop where
  c : Cls K C
  ha : PySem.W.findIn K (.ref C) "__class__" = some (some (.builtin "object.__class__"))
  hn : PySem.W.specialIn K (.builtin "object.__class__") "__get__" = some (some (.builtin "getset_descriptor.__get__"))
  htk : PySem.W.takesIn K (.builtin "object.__class__") = some true
  hm : PySem.W.mroIn K C (.type "object") = some true
def clsTB (K : PySem.W.Frag) (C : Addr) : Bool := He.eqO (PySem.W.findIn K (.ref C) "__class__") (some (some (.builtin "object.__class__"))) && (He.eqO (PySem.W.specialIn K (.builtin "object.__class__") "__get__") (some (some (.builtin "getset_descriptor.__get__"))) && (decide (PySem.W.takesIn K (.builtin "object.__class__") = some true) && decide (PySem.W.mroIn K C (.type "object") = some true)))
theorem clsT_ok {K : PySem.W.Frag} {C : Addr} (c : Cls K C) (h : clsTB K C = true) : ClsT K C := by
  obtain ⟨h1, h⟩ := Bool.and_eq_true_iff.mp h
  obtain ⟨h2, h⟩ := Bool.and_eq_true_iff.mp h
  obtain ⟨h3, h4⟩ := Bool.and_eq_true_iff.mp h
  exact ⟨c, He.eqO_ok h1, He.eqO_ok h2, of_decide_eq_true h3, of_decide_eq_true h4⟩
/-- the class of a datum -/
inductive TyQ (K : PySem.W.Frag) (μ : Mu) : D → Value → Prop where
  | non : TyQ K μ .non (.type "NoneType")
  | bl (b) : TyQ K μ (.bl b) (.type "bool")
  | int (i) : TyQ K μ (.int i) (.type "int")
  | str (x) : TyQ K μ (.str x) (.type "str")
  | lst (xs) : TyQ K μ (.lst xs) (.type "list")
  | rl (xs) : TyQ K μ (.rl xs) (.type "list")
  | tup (xs) : TyQ K μ (.tup xs) (.type "tuple")
  | dK (ks xs) : TyQ K μ (.dK ks xs) (.type "dict")
  | own {p xs} (h : (p, Cell.lst xs) ∈ μ) : TyQ K μ (.ref p) (.type "list")
  | obj {C} (c : ClsT K C) (ns xs) : TyQ K μ (.obj C ns xs) (.ref C)
  | ins {C p dx ns xs} (c : ClsT K C) (h : (p, Cell.ins C dx ns xs) ∈ μ) : TyQ K μ (.ref p) (.ref C)
section
variable {Γ : Ct} {δ : Dl} {μ : Mu} {Q : D → Mu → Prop}
theorem tyQ_run {F H : Hp} {σ : L2.St} {d : D} {v : V} {t : Value} (a : At Γ F δ μ σ H) (r : Dp Γ.X.K F d v) (h : TyQ Γ.X.K μ d t) : TyX Γ.X.K H v t := by
  cases h with
  | non => rw [Dp] at r; subst r; exact .base .non
  | bl b => rw [Dp] at r; subst r; exact .base (.bl b)
  | int i => rw [Dp] at r; subst r; exact .base (.int i)
  | str x => rw [Dp] at r; subst r; exact .base (.str x)
  | lst xs =>
    obtain ⟨p, vs, rfl, h1, _⟩ := dpL r
    exact .base (.lst (a.sx.sub _ _ h1))
  | rl xs =>
    obtain ⟨p, vs, rfl, h1, _⟩ := dpRl r
    rcases h1 with (h1 | ⟨o, h1⟩) | ⟨o, its, n, e, c, _⟩
    · exact .base (.lst (a.sx.sub _ _ h1))
    · exact .base (.frz (a.sx.sub _ _ h1))
    · exact .kList e c
  | tup xs =>
    obtain ⟨p, vs, rfl, h1, _⟩ := dpT r
    rcases h1 with (h1 | ⟨o, h1⟩) | ⟨o, its, n, e, c, _⟩
    · exact .base (.tup (a.sx.sub _ _ h1))
    · exact .fTuple (a.sx.sub _ _ h1)
    · exact .kTuple e c
  | dK ks xs =>
    rw [Dp] at r
    obtain ⟨p, kvs, rfl, h1, _⟩ := r
    exact .base (.dK (a.sx.sub _ _ h1))
  | own h =>
    rw [dpR r]
    obtain ⟨vs, h1, _⟩ := a.sx.cells _ h
    exact .base (.lst h1)
  | obj c ns xs =>
    rw [Dp] at r
    obtain ⟨p, dx, gs, rfl, h1, _⟩ := r
    exact .base (.ins (a.sx.sub _ _ h1) c.c c.ha c.hn c.htk c.hm)
  | ins c h =>
    rw [dpR r]
    obtain ⟨gs, h1, _⟩ := a.sx.cells _ h
    exact .base (.ins h1 c.c c.ha c.hn c.htk c.hm)
/-- a class as a datum -/
def clsD : D → Option Value
  | .ty n => some (.type n)
  | .ref C => some (.ref C)
  | _ => none
theorem clsD_run {K : PySem.W.Frag} {F : Hp} {d : D} {v : V} {u : Value} (h : clsD d = some u) (r : Dp K F d v) : ClsV v u := by
  cases d <;> cases h
  · rw [Dp] at r; subst r; exact .ty _
  · rw [dpR r]; exact .own _
theorem clsDs_run {K : PySem.W.Frag} {F : Hp} : ∀ {ds : List D} {vs : List V} {us : List Value}, ds.map clsD = us.map some → Dps K F ds vs → Paired ClsV vs us
  | [], vs, [], _, r => by rw [r.unnil]; exact .nil
  | [], _, _ :: _, h, _ => by cases h
  | _ :: _, _, [], h, _ => by cases h
  | d :: ds, vs, u :: us, h, r => by
    obtain ⟨v, ws, rfl, r1, r2⟩ := r.uncons
    injection h with h1 h2
    exact .cons (clsD_run h1 r1) (clsDs_run h2 r2)
theorem cld_isi {x c : D} {t u : Value} {b : Bool} (ht : TyQ Γ.X.K μ x t) (hc : clsD c = some u) (hk : PySem.W.kitOne Γ.X.K t u = some b) (q : Q (.bl b) μ) : cld Γ (.builtin "isinstance") [x, c] δ μ Q := cld_of call_isi fun F σ H vs a r0 => by
  obtain ⟨v, ws, rfl, r1, r2⟩ := r0.uncons
  obtain ⟨w, zs, rfl, r3, r4⟩ := r2.uncons
  rw [r4.unnil]
  exact ⟨v, w, t, u, b, rfl, clsD_run hc r3, tyQ_run a r1 ht, hk, PostE.here a dpb q⟩
/-- the tuple of classes, wherever it stands -/
def rIsiS (K : PySem.W.Frag) : List V → Hp → VK → Prop := fun xs H Q => ∃ (x : V) (tp : Addr) (cs : List V) (t : Value) (us : List Value) (b : Bool), xs = [x, .ref tp] ∧ SqT K H tp cs ∧ Paired ClsV cs us ∧ TyX K H x t ∧ PySem.W.kitAny K t us = some b ∧ Q (.bl b) H
theorem call_isiS {X : Cx} : CallR X (.builtin "isinstance") (rIsiS X.K) := fun pins s σ H xs us Q I r h => by
  obtain ⟨x, tp, cs, t, ws, b, rfl, hT, k, ty, e, q⟩ := h
  obtain ⟨u1, u2, rfl, r1, r2⟩ := vals2 r
  obtain rfl : u2 = Value.ref tp := r2
  obtain ⟨P, Z, p, hx⟩ := kit_of I r1 ty
  obtain ⟨its, rv, ⟨⟨oc, od, dt, sl⟩, h1, h2, n, h3⟩, _⟩ := I.tuple hT
  obtain rfl := ClsV.all k rv
  dsimp only at h2 h3
  subst h2 h3
  exact PySem.W.kia_tup Z I.kIn p h1 e hx fun tk => ⟨.bl b, H, I.tok tk, rfl, q⟩
theorem cld_isiT {x : D} {cs : List D} {us : List Value} {t : Value} {b : Bool} (ht : TyQ Γ.X.K μ x t) (hc : cs.map clsD = us.map some) (hk : PySem.W.kitAny Γ.X.K t us = some b) (q : Q (.bl b) μ) : cld Γ (.builtin "isinstance") [x, .tup cs] δ μ Q := cld_of call_isiS fun F σ H vs a r0 => by
  obtain ⟨v, ws, rfl, r1, r2⟩ := r0.uncons
  obtain ⟨w, zs, rfl, r3, r4⟩ := r2.uncons
  rw [r4.unnil]
  obtain ⟨p, ws, rfl, h1, h2⟩ := dpT r3
  exact ⟨v, p, ws, t, us, b, rfl, Same.sqT a.sx.sub h1, clsDs_run hc h2, tyQ_run a r1 ht, hk, PostE.here a dpb q⟩
end
/-! ### membership among flat things -/
def flatD : D → Bool
  | .non | .bl _ | .int _ | .str _ => true
  | _ => false
def fE : D → D → Bool
  | .non, .non => true
  | .bl a, .bl b => a == b
  | .bl a, .int b => (if a then 1 else 0) == b
  | .int a, .bl b => a == (if b then 1 else 0)
  | .int a, .int b => a == b
  | .str a, .str b => a == b
  | _, _ => false
theorem flat_run {K : PySem.W.Frag} {F : Hp} {x : D} {v : V} (h : flatD x = true) (r : Dp K F x v) : flatV v = true := by
  cases x <;> cases h <;> (rw [Dp] at r; subst r; rfl)
theorem fE_run {K : PySem.W.Frag} {F : Hp} {x y : D} {v w : V} (h : flatD x = true) (h' : flatD y = true) (r : Dp K F x v) (r' : Dp K F y w) : eqV v w = fE x y := by
  cases x <;> cases h <;> (rw [Dp] at r; subst r) <;> cases y <;> cases h' <;> (rw [Dp] at r'; subst r'; rfl)
theorem flats_run {K : PySem.W.Frag} {F : Hp} : ∀ {xs : List D} {vs : List V}, xs.all flatD = true → Dps K F xs vs → vs.all flatV = true
  | [], vs, _, r => by rw [r.unnil]; rfl
  | x :: xs, vs, h, r => by
    obtain ⟨v, ws, rfl, r1, r2⟩ := r.uncons
    rw [List.all_cons, Bool.and_eq_true] at h ⊢
    exact ⟨flat_run h.1 r1, flats_run h.2 r2⟩
def inD (x : D) (xs : List D) : Bool := xs.any fun y => fE y x
theorem inD_run {K : PySem.W.Frag} {F : Hp} {x : D} {v : V} (h : flatD x = true) (r : Dp K F x v) : ∀ {xs : List D} {vs : List V}, xs.all flatD = true → Dps K F xs vs → inV v vs = inD x xs
  | [], vs, _, r => by rw [r.unnil]; rfl
  | y :: xs, vs, h', r' => by
    obtain ⟨w, ws, rfl, r1, r2⟩ := r'.uncons
    rw [List.all_cons, Bool.and_eq_true] at h'
    show (eqV w v || inV v ws) = (fE y x || inD x xs)
    rw [fE_run h'.1 h r1 r, inD_run h r h'.2 r2]
theorem inD_str (z : Str) : ∀ ys : List Str, inD (.str z) (ys.map .str) = decide (z ∈ ys)
  | [] => rfl
  | y :: ys => by
    show ((y == z) || inD (.str z) (ys.map .str)) = _
    rw [inD_str z ys]
    by_cases e : y = z
    · subst e; simp
    · have e' : ¬ z = y := fun h => e h.symm
      simp [e, e', List.mem_cons]
theorem inD_int (z : Int) : ∀ ys : List Int, inD (.int z) (ys.map .int) = decide (z ∈ ys)
  | [] => rfl
  | y :: ys => by
    show ((y == z) || inD (.int z) (ys.map .int)) = _
    rw [inD_int z ys]
    by_cases e : y = z
    · subst e; simp
    · have e' : ¬ z = y := fun h => e h.symm
      simp [e, e', List.mem_cons]
/-- a sequence as a datum -/
inductive SeqD (μ : Mu) : D → List D → Prop where
  | lst (xs) : SeqD μ (.lst xs) xs
  | rl (xs) : SeqD μ (.rl xs) xs
  | tup (xs) : SeqD μ (.tup xs) xs
  | own {p xs} (h : (p, Cell.lst xs) ∈ μ) : SeqD μ (.ref p) xs
section
variable {Γ : Ct} {δ : Dl} {μ : Mu} {Q : D → Mu → Prop} {x y : D} {xs : List D}
theorem seqD_run {F H : Hp} {σ : L2.St} {v : V} (a : At Γ F δ μ σ H) (h : SeqD μ y xs) (r : Dp Γ.X.K F y v) : ∃ p vs, v = .ref p ∧ (SqL Γ.X.K H p vs ∨ SqT Γ.X.K H p vs) ∧ Dps Γ.X.K F xs vs := by
  cases h with
  | lst =>
    obtain ⟨p, vs, rfl, h1, h2⟩ := dpL r
    exact ⟨p, vs, rfl, .inl (.inl (.inl (a.sx.sub _ _ h1))), h2⟩
  | rl =>
    obtain ⟨p, vs, rfl, h1, h2⟩ := dpRl r
    exact ⟨p, vs, rfl, .inl (a.sx.sub.seq h1), h2⟩
  | tup =>
    obtain ⟨p, vs, rfl, h1, h2⟩ := dpT r
    exact ⟨p, vs, rfl, .inr (Same.sqT a.sx.sub h1), h2⟩
  | own h =>
    rw [dpR r]
    obtain ⟨vs, h1, h2⟩ := a.sx.cells _ h
    exact ⟨_, vs, rfl, .inl (.inl (.inl h1)), h2⟩
theorem opd_in (hs : SeqD μ y xs) (hx : flatD x = true) (hf : xs.all flatD = true) (q : Q (.bl (inD x xs)) μ) : opd Γ (compareOp .In) x y δ μ Q := opd_of op_in_seq fun F σ H vx vy a r1 r2 => by
  obtain ⟨p, vs, rfl, h1, h2⟩ := seqD_run a hs r2
  refine ⟨p, vs, rfl, h1, flat_run hx r1, flats_run hf h2, ?_⟩
  rw [if_neg (by decide), inD_run hx r1 hf h2]
  exact PostE.here a dpb q
theorem opd_notIn (hs : SeqD μ y xs) (hx : flatD x = true) (hf : xs.all flatD = true) (q : Q (.bl (!inD x xs)) μ) : opd Γ (compareOp .NotIn) x y δ μ Q := opd_of op_notIn_seq fun F σ H vx vy a r1 r2 => by
  obtain ⟨p, vs, rfl, h1, h2⟩ := seqD_run a hs r2
  refine ⟨p, vs, rfl, h1, flat_run hx r1, flats_run hf h2, ?_⟩
  rw [if_pos rfl, inD_run hx r1 hf h2]
  exact PostE.here a dpb q
theorem flat_strs (ys : List Str) : (ys.map D.str).all flatD = true := by rw [List.all_map]; exact List.all_eq_true.mpr fun _ _ => rfl
theorem flat_ints (ys : List Int) : (ys.map D.int).all flatD = true := by rw [List.all_map]; exact List.all_eq_true.mpr fun _ _ => rfl
theorem opd_inS {z : Str} (ys : List Str) (hs : SeqD μ y xs) (e : xs = ys.map .str) (q : Q (.bl (decide (z ∈ ys))) μ) : opd Γ (compareOp .In) (.str z) y δ μ Q := by
  subst e; exact opd_in hs rfl (PD.flat_strs ys) (by rw [inD_str]; exact q)
theorem opd_notInS {z : Str} (ys : List Str) (hs : SeqD μ y xs) (e : xs = ys.map .str) (q : Q (.bl (!decide (z ∈ ys))) μ) : opd Γ (compareOp .NotIn) (.str z) y δ μ Q := by
  subst e; exact opd_notIn hs rfl (PD.flat_strs ys) (by rw [inD_str]; exact q)
end
end PD
/-! PD11: own ==, !=, str of data. -/
namespace PD
open PySem PySem.Spec PyProof.Rows L2
section
variable {Γ : Ct} {δ : Dl} {μ : Mu} {Q : D → Mu → Prop} {k j n : Nat} {f C : Addr} {sp : SpD} {dds : List D} {x y : D}
/-- an instance of the class at C -/
def InsC (C : Addr) (x : D) (μ : Mu) : Prop := match x with
  | .obj C' _ _ => C' = C
  | .ref p => ∃ dx ns ds, (p, Cell.ins C dx ns ds) ∈ μ
  | _ => False
theorem insC_run {F H : Hp} {σ : L2.St} {v : V} (a : At Γ F δ μ σ H) (h : InsC C x μ) (r : Dp Γ.X.K F x v) : ∃ p dx gs, v = .ref p ∧ H p = some (.ins C dx gs) := by
  cases x with
  | obj C' ns ds =>
    obtain rfl : C' = C := h
    rw [Dp] at r
    obtain ⟨p, dx, gs, rfl, h1, _⟩ := r
    exact ⟨p, dx, gs, rfl, a.sx.sub _ _ h1⟩
  | ref p =>
    obtain ⟨dx, ns, ds, hm⟩ := h
    obtain ⟨gs, h1, _⟩ := a.sx.cells _ hm
    rw [dpR r]
    exact ⟨p, dx, gs, rfl, h1⟩
  | _ => exact h.elim
/-- a call of a def, at any depth, that lets nothing out -/
theorem cd_deep {A' : Around} {F H : Hp} {σ σ' : L2.St} {pins : List (Addr × Obj)} {s : Shared} {ds : List D} {vs : List V} {us : List Value} (Cd : CallD Γ.X.prog Γ.X.w Γ.X.K Γ.X.mg Γ.X.base k f n dds sp) (hr : Room k A') (e0 : Env0 Γ.X.prog Γ.X.w Γ.X.K Γ.X.mg Γ.X.base A' Γ.X.stack s H)
    (I : Inv Γ.X pins σ' H s) (a : At Γ F δ μ σ H) (r : Dps Γ.X.K F ds vs) (ru : Vals vs us) (hl : (ds ++ dds).length = n) (h : sp (ds ++ dds) μ Q fun _ _ _ _ => False) :
    wpAny (model Γ.X.prog Γ.X.w) A' (call (.ref f) us) (EP Γ.X pins σ' (PostE Γ F δ σ Q)) Γ.X.xe s := by
  obtain ⟨fd, ps, dvs, dus, e, b, v, dd, G⟩ := (Cd.at_ false).ex
  have hs : spOf Γ.X.K ps.length sp (vs ++ dvs) H (PostE Γ F δ σ Q) (fun _ _ _ => False) := ⟨F, μ, ds ++ dds, Q, fun _ _ _ _ => False, a.sx, r.append (dd F), hl.trans e.symm, h,
    fun v H' F' μ' d st sx rd q => ⟨F', d, μ', st.ext, ⟨a.st.trans st, sx, a.fr.mono st.ext⟩, rd, q⟩, fun _ _ _ _ _ _ _ _ _ _ z => z⟩
  have r2 : Vals (vs ++ dvs) (us ++ dus) := ru.append v
  have l2 : (us ++ dus).length = ps.length := r2.length.symm.trans (G.len _ _ _ _ hs)
  refine wpAny_call (codeAny_mono (G.run A' Γ.X.stack s H ⟨us, []⟩ _ _ _ _ hr e0 (b s us I.kIn l2) r2 hs) fun res s' z => ?_)
  match res, z with
  | .ok (.ret u), z => exact I.after z
  | .error e, z =>
    obtain ⟨_, _, _, _, _, _, _, _, _, _, _, _, z⟩ := z
    exact z.elim
theorem typeOf_run {F H : Hp} {σ σ' : L2.St} {pins : List (Addr × Obj)} {s : Shared} {v : V} {u t : Value} (I : Inv Γ.X pins σ' H s) (a : At Γ F δ μ σ H) (h : TyQ Γ.X.K μ y t) (r : Dp Γ.X.K F y v) (ru : RelV v u) (M : Model) : PySem.W.Looks M s.heap (typeOf u) t := by
  obtain ⟨P, Z, p, _⟩ := kit_of I ru (tyQ_run a r h)
  exact Z.ty M _ I.kIn p
/-- what own == needs of the class, against a thing of type t -/
structure EqOwn (K : PySem.W.Frag) (C f : Addr) : Prop where
  at_ : PySem.W.findIn K (.ref C) "__eq__" = some (some (.ref f))
  fn : PySem.W.isFn K (.ref f) = true
theorem opd_eqOwn {t : Value} (E : EqOwn Γ.X.K C f) (hx : InsC C x μ) (hy : TyQ Γ.X.K μ y t) (hn : PySem.W.notFirst Γ.X.K C t = true) (Cd : CallD Γ.X.prog Γ.X.w Γ.X.K Γ.X.mg Γ.X.base k f 2 [] sp) (hr : Room j Γ.X.A) (hkj : k ≤ j) (hu : Γ.X.A.units < cLine)
    (h : sp [x, y] μ (fun d μ' => ∃ b, d = .bl b ∧ Q (.bl b) μ') fun _ _ _ _ => False) : opd Γ (compareOp .Eq) x y δ μ Q := fun F σ H vx vy a r1 r2 pins s σ' v u I q1 q2 => by
  obtain ⟨p, dx, gs, rfl, h1⟩ := insC_run a hx r1
  obtain rfl : v = Value.ref p := q1
  obtain ⟨mA, O, _⟩ := ins_get I.hok h1
  obtain ⟨od, J, _⟩ := O.look
  obtain ⟨m, hF⟩ := I.fr
  have z := cd_deep Cd (hr.mono hkj) I.env0 I a (ds := [x, y]) (us := [Value.ref p, u]) (Dps.cons r1 (Dps.cons r2 Dps.nil)) (.cons rfl (.cons q2 .nil)) rfl h
  refine PySem.W.cmp_ofEq (PySem.W.cmp_K (op := .Eq) hu hF I.ok.mod.kin J (typeOf_run I a hy r2 q2 _) hn E.at_ E.fn (wpAny_mono z (fun w s' z => ?_) fun _ _ x => x))
  obtain ⟨z', H', I', rz, F', d, μ', s1, a', rd, b, rfl, q⟩ := z
  obtain rfl := dpB rd
  exact SlX.cmpback rz ⟨_, H', I', rz, F', _, μ', s1, a', rd, q⟩
/-- str(x), by an own __str__ -/
structure StrOwn (K : PySem.W.Frag) (C f : Addr) : Prop where
  at_ : PySem.W.findIn K (.ref C) "__str__" = some (some (.ref f))
  fn : PySem.W.isFn K (.ref f) = true
theorem cld_strOwn (E : StrOwn Γ.X.K C f) (hx : InsC C x μ) (Cd : CallD Γ.X.prog Γ.X.w Γ.X.K Γ.X.mg Γ.X.base k f 1 [] sp) (hr : Room j Γ.X.A) (hkj : k + 2 ≤ j)
    (h : sp [x] μ (fun d μ' => ∃ z, d = .str z ∧ Q (.str z) μ') fun _ _ _ _ => False) : cld Γ (.type "str") [x] δ μ Q := fun F σ H vs a r0 pins s σ' us I q1 => by
  obtain ⟨vx, ws, rfl, r1, r2⟩ := r0.uncons
  obtain rfl := r2.unnil
  obtain ⟨p, dx, gs, rfl, h1⟩ := insC_run a hx r1
  obtain ⟨u, rfl, ru⟩ := q1.one
  obtain rfl : u = Value.ref p := ru
  obtain ⟨mA, O, _⟩ := ins_get I.hok h1
  obtain ⟨od, J, _⟩ := O.look
  have hr2 : Room k Γ.X.A.in1.in1 := (show Room (k + 1) Γ.X.A.in1 from (hr.mono hkj).in1).in1
  have z := cd_deep Cd hr2 I.env0.in1.in1 I a (ds := [x]) (us := [Value.ref p]) (Dps.cons r1 Dps.nil) (.cons rfl .nil) rfl h
  refine PySem.W.kso_call (Nat.lt_of_le_of_lt (Nat.le_add_right _ 64) hr2.units) I.kIn J E.at_ E.fn (wpAny_mono z (fun w s' z => ?_) fun _ _ x => x)
  obtain ⟨z', H', I', rz, F', d, μ', s1, a', rd, t, rfl, q⟩ := z
  obtain rfl := dpS rd
  obtain ⟨tk, rfl⟩ := (show ∃ tk, w = Value.str t tk from rz)
  exact ⟨V.str t, H', I', ⟨tk, rfl⟩, F', _, μ', s1, a', rd, q⟩
/-! ### != by an own == -/
theorem bind_ne (self : Value) : bindSpecial (.builtin "object.__ne__") self = pure (.builtin "object.__ne__", [self]) := PySem.F.slot_tuple_iterator_ne.bind self
structure NeOwn (K : PySem.W.Frag) (C f : Addr) : Prop where
  eq : EqOwn K C f
  at_ : PySem.W.findIn K (.ref C) "__ne__" = some (some (.builtin "object.__ne__"))
  hm : PySem.W.mroIn K C (.type "object") = some true
section
variable {prog : Program} {w : World} {A : Around} {E : Value → Shared → Prop} {s : Shared} {K : PySem.W.Frag} {x C f : Addr} {ox : Obj} {od : Option Obj}
theorem own_ne {b tb : Value} {Q : Value → Shared → Prop} (hu : A.units + 1 < cLine) (X : K.In s.heap) (I : PySem.W.InstAt s.heap x ox C od) (hb : PySem.W.Looks (model prog w) s.heap (typeOf b) tb)
    (hn : PySem.W.notFirst K C tb = true) (N : NeOwn K C f) (h : wpAny (model prog w) A.in1 (call (.ref f) [.ref x, b]) (fun v s' => ∃ t, v = .bool t ∧ Q (.bool (!t)) s') E s) : wpAny (model prog w) A (richCompare .NotEq (.ref x) b) Q E s := by
  have body : wpAny (model prog w) A.in1 (Builtin.«object.__ne__» ⟨[.ref x, b], []⟩) (fun r s' => ∃ t, r = .done (.ret (.bool t)) ∧ Q (.bool t) s') E s := by
    unfold Builtin.«object.__ne__»
    repeat (first
      | with_reducible refine wpAny_cRoomFor (A := A.in1) hu ?_
      | (refine wpAny_bind (m := callSpecialIfBound? (.ref x) (Str.ofString "__eq__") [b]) (PySem.W.ifBound_K X I N.eq.at_ N.eq.fn (wpAny_mono h (fun r s' hr => ?_) fun _ _ e => e)))
      | wp_step)
    obtain ⟨t, rfl, hq⟩ := hr
    repeat (first | exact ⟨_, rfl, hq⟩ | exact wpAny_pure ⟨_, rfl, hq⟩ | (refine wpAny_bind (m := truthy (.bool _)) (wpAny_truthy_bool ?_)) | wp_step)
  have go : wpAny (model prog w) A (call (.builtin "object.__ne__") [.ref x, b]) (fun v s' => ∃ t, v = .bool t ∧ Q (.bool t) s') E s :=
    wpAny_call (codeAny_call_builtin PySem.F.slot_tuple_iterator_ne.plain PySem.F.cmpEntry_ne (PySem.W.check_slot PySem.F.cmpKind_ne PySem.F.cmpSplit_ne (I.type.andThen (PySem.W.looks_mroIn X N.hm)) (PySem.F.cmpArgs_ne _ _) (wpAny_mono body (fun r s' hr => by
      obtain ⟨t, rfl, hq⟩ := hr; exact ⟨t, rfl, hq⟩) fun _ _ e => e)))
  have bound : wpAny (model prog w) A (callSpecialIfBound? (.ref x) "__ne__" [b]) (fun r s' => ∃ t, r = some (.bool t) ∧ Q (.bool t) s') E s := by
    simp only [callSpecialIfBound?, bindSpecialIfBound?]
    refine wpAny_holding (wpAny_bind (wpAny_bind (wpAny_bind (I.type.here ((PySem.W.looks_findIn X N.at_).here ?_)))))
    simp only [bind_ne]
    refine wpAny_bind (wpAny_askSetting (wpAny_ite ?_))
    have fin : wpAny (model prog w) A (call (.builtin "object.__ne__") ([.ref x] ++ [b]) >>= fun v => pure (some v)) (fun r s' => ∃ t, r = some (.bool t) ∧ Q (.bool t) s') E s :=
      wpAny_bind (wpAny_mono go (fun v s' ⟨t, e, hq⟩ => wpAny_pure ⟨t, congrArg some e, hq⟩) fun _ _ h' => h')
    split
    · exact wpAny_bind (wpAny_pure (wpAny_pure fin))
    · exact wpAny_tryCatch (wpAny_bind (wpAny_pure (wpAny_pure fin)))
  have one : wpAny (model prog w) A (tryCompare (.ref x) "__ne__" b) (fun r s' => ∃ v, r = some v ∧ Q v s') E s := by
    unfold tryCompare
    refine wpAny_bind (wpAny_mono bound (fun r s' z => ?_) fun _ _ e => e)
    obtain ⟨t, rfl, hq⟩ := z
    exact wpAny_pure ⟨_, rfl, hq⟩
  unfold richCompare
  simp only [oneThing_ref]
  refine wpAny_holding (wpAny_bind (wpAny_cRoomFor (Nat.lt_of_succ_lt hu) ?_))
  refine wpAny_bind (I.type.here (wpAny_bind (hb.here ?_)))
  have hf : ∀ v : Value, (Value.ref C != tb) = true → wpAny (model prog w) A (isSubtype tb (.ref C)) (fun r s' => r = false ∧ s' = s) E s := fun v q => by
    have e : PySem.W.subIn K tb (.ref C) = some false := by
      rcases Bool.or_eq_true_iff.mp hn with e | e
      · rw [beq_iff_eq.mp e] at q; simp at q
      · exact beq_iff_eq.mp e
    exact (PySem.W.looks_subIn X e).here ⟨rfl, rfl⟩
  split
  · next q =>
    refine wpAny_bind (wpAny_mono (hf tb q) (fun r s' z => ?_) fun _ _ e => e)
    obtain ⟨rfl, rfl⟩ := z
    simp only [Bool.false_eq_true, if_false]
    refine wpAny_bind (wpAny_mono one (fun r s' z => ?_) fun _ _ e => e)
    obtain ⟨v, rfl, hq⟩ := z
    exact wpAny_pure hq
  · refine wpAny_bind (wpAny_pure ?_)
    simp only [Bool.false_eq_true, if_false]
    refine wpAny_bind (wpAny_mono one (fun r s' z => ?_) fun _ _ e => e)
    obtain ⟨v, rfl, hq⟩ := z
    exact wpAny_pure hq
end
theorem opd_neOwn {t : Value} (E : NeOwn Γ.X.K C f) (hx : InsC C x μ) (hy : TyQ Γ.X.K μ y t) (hn : PySem.W.notFirst Γ.X.K C t = true) (Cd : CallD Γ.X.prog Γ.X.w Γ.X.K Γ.X.mg Γ.X.base k f 2 [] sp) (hr : Room j Γ.X.A) (hkj : k + 1 ≤ j)
    (h : sp [x, y] μ (fun d μ' => ∃ b, d = .bl b ∧ Q (.bl (!b)) μ') fun _ _ _ _ => False) : opd Γ (compareOp .NotEq) x y δ μ Q := fun F σ H vx vy a r1 r2 pins s σ' v u I q1 q2 => by
  obtain ⟨p, dx, gs, rfl, h1⟩ := insC_run a hx r1
  obtain rfl : v = Value.ref p := q1
  obtain ⟨mA, O, _⟩ := ins_get I.hok h1
  obtain ⟨od, J, _⟩ := O.look
  have hr2 : Room k Γ.X.A.in1 := (hr.mono hkj).in1
  have z := cd_deep Cd hr2 I.env0.in1 I a (ds := [x, y]) (us := [Value.ref p, u]) (Dps.cons r1 (Dps.cons r2 Dps.nil)) (.cons rfl (.cons q2 .nil)) rfl h
  refine PySem.W.cmp_ofNotEq (own_ne (Nat.lt_of_le_of_lt (Nat.le_add_right _ 64) hr2.units) I.kIn J (typeOf_run I a hy r2 q2 _) hn E (wpAny_mono z (fun w s' z => ?_) fun _ _ x => x))
  obtain ⟨z', H', I', rz, F', d, μ', s1, a', rd, b, rfl, q⟩ := z
  obtain rfl := dpB rd
  obtain rfl : w = Value.bool b := rz
  exact ⟨b, rfl, .bl (!b), H', I', rfl, F', .bl (!b), μ', s1, a', dpb, q⟩
end
end PD
/-! PD12: starred items, written dicts, texts. -/
namespace PD
open PySem PySem.Spec PyProof.Rows L2
section
variable {Γ : Ct} {δ : Dl} {μ : Mu} {pos : Pos}
theorem star_list {X : Cx} {pins : List (Addr × Obj)} {σ : L2.St} {H : Hp} {s : Shared} {a : Addr} {xs : List V} {E : Value → Shared → Prop} {Q : List Value → Shared → Prop} (I : Inv X pins σ H s) (h : SqL X.K H a xs) (hQ : ∀ us s', Inv X pins σ H s' → Vals xs us → Q us s') : PySem.W.StarOf (model X.prog X.w) X.A E (.ref a) Q s := by
  obtain ⟨its, r, ⟨o, n, ho, hc, _, hd⟩, hz⟩ := I.list h
  have hl := r.length
  unfold PySem.W.StarOf notIterableAtAll
  refine wpAny_bind (wpAny_specialOf (T := "list") ⟨o, ho, hc⟩ PySem.F.slot_list_iter.lookup (wpAny_pure ⟨rfl, ?_⟩))
  exact wpAny_collect_seq a (.inl rfl) ho hc hd (fun h' hk => hQ _ _ (I.kept (t' := s.toks) hk) (by simpa using r)) (by rw [List.size_toArray]; omega)
theorem ea_star {e : Expr} {p : Pos} {es : List Expr} {Q : List D → Mu → Prop} (h : ed Γ e δ μ fun x μ1 => ∃ xs, SeqD μ1 x xs ∧ ea Γ es δ μ1 fun ds μ2 => (xs ++ ds).length ≤ sizeLine ∧ Q (xs ++ ds) μ2)
    (he : starEach (.Starred e p :: es) Γ.X.env = (true, eval e Γ.X.env) :: starEach es Γ.X.env := by rfl) : ea Γ (.Starred e p :: es) δ μ Q := fun F σ H a pos pins s I => by
  refine PySem.W.items_star (thn (h F σ H a pins s I) fun u s1 ⟨v, H1, I1, rv, F1, x, μ1, s1', a1, r1, xs, hs, q⟩ => ?_) he
  obtain ⟨q', vs, rfl, hq, r2⟩ := seqD_run a1 hs r1
  obtain rfl : u = Value.ref q' := rv
  have fin : ∀ us s', Inv Γ.X pins σ H1 s' → Vals vs us → wpAny (model Γ.X.prog Γ.X.w) Γ.X.A (spliced (backTo pos (starEach es Γ.X.env))) (fun ws s3 => AP Γ.X pins σ (PostA Γ F δ σ Q) (us ++ ws) s3) Γ.X.xe s' := fun us s' I' ru =>
    thn (q F1 σ H1 a1 pos pins s' I') fun ws s3 ⟨zs, H2, I2, rw', F2, ds, μ2, s2', a2, r3, hz, q2⟩ => ⟨vs ++ zs, H2, I2, ru.append rw', F2, xs ++ ds, μ2, s1'.trans s2', a2, (r2.mono s2').append r3, q2⟩
  rcases hq with hq | hq
  · exact star_list I1 hq fin
  · exact star_tup I1 hq fin
end
/-! ### the top with its written dicts -/
structure TXW (fa : List He.Fa) (fn : List He.DefD) (ts : List He.Tab) (ex : PySem.W.Frag → Bool) (w : World) (K : PySem.W.Frag) (mg : Str → Option Value) : Prop extends TX fa fn ex K mg where
  tab : ∀ (i : Nat) (t : He.Tab), ts[i]? = some t → ∃ es n, KDict K w (t.1 K) es n
theorem txw_of {fa : List He.Fa} {fn : List He.DefD} {ex : PySem.W.Frag → Bool} {K : PySem.W.Frag} {mg : Str → Option Value} {ts : List He.Tab} {tf : List He.Defn} {w : World} {h h' : Heap} (X : K.In h) (G : h.Ns mainGlobals mg) (c : He.SaysX fa fn ts tf ex w h' K) : TXW fa fn ts ex w K mg where
  toTX := tx_of X G c
  tab := fun i _ e => c.t.tab i e
section
variable {Γ : Ct} {δ : Dl} {μ : Mu} {Q : D → Mu → Prop} {a : Addr} {es : Array DictEntry} {n : Nat}
theorem mtd_startswith {x z : Str} (q : Q (.bl (Txt.startswith x z)) μ) : mtd Γ "str.startswith" (.str x) [.str z] δ μ Q := mtd_of mt_startswith fun F σ H vx vs a r1 r2 => by
  rw [dpS r1]
  obtain ⟨v, rfl, r3⟩ := r2.one
  rw [dpS r3]
  exact ⟨x, z, rfl, rfl, PostE.here a dpb q⟩
end
/-! ### own classes, told apart -/
theorem kit_same {K : PySem.W.Frag} {C : Addr} : PySem.W.kitOne K (.ref C) (.ref C) = some true := by
  unfold PySem.W.kitOne; rw [if_pos (by simp)]
theorem nf_same {K : PySem.W.Frag} {C : Addr} : PySem.W.notFirst K C (.ref C) = true := by
  unfold PySem.W.notFirst; simp
def neB (K : PySem.W.Frag) (C : Addr) : Bool := He.eqO (PySem.W.findIn K (.ref C) "__ne__") (some (some (.builtin "object.__ne__"))) && decide (PySem.W.mroIn K C (.type "object") = some true)
theorem eqOwn_of {K : PySem.W.Frag} {C f : Addr} (m : Meth K C "__eq__" f) : EqOwn K C f := ⟨m.at_, m.fn⟩
theorem strOwn_of {K : PySem.W.Frag} {C f : Addr} (m : Meth K C "__str__" f) : StrOwn K C f := ⟨m.at_, m.fn⟩
theorem neOwn_of {K : PySem.W.Frag} {C f : Addr} (m : Meth K C "__eq__" f) (h : neB K C = true) : NeOwn K C f := by
  obtain ⟨h1, h2⟩ := Bool.and_eq_true_iff.mp h
  exact ⟨eqOwn_of m, He.eqO_ok h1, of_decide_eq_true h2⟩
theorem ifd {p : Prop} [Decidable p] {A B : Prop} (h1 : p → A) (h2 : ¬p → B) : if decide p = true then A else B := by
  by_cases h : p
  · rw [if_pos (by simpa using h)]; exact h1 h
  · rw [if_neg (by simpa using h)]; exact h2 h
theorem ifn {p : Prop} [Decidable p] {A B : Prop} (h1 : ¬p → A) (h2 : p → B) : if (!decide p) = true then A else B := by
  by_cases h : p
  · rw [if_neg (by simpa using h)]; exact h2 h
  · rw [if_pos (by simpa using h)]; exact h1 h
theorem ifb {b : Bool} {A B : Prop} (h1 : b = true → A) (h2 : b = false → B) : if b = true then A else B := by
  cases b
  · rw [if_neg (by decide)]; exact h2 rfl
  · rw [if_pos rfl]; exact h1 rfl
/-! ### a comprehension whose items are drawn -/
section
variable {Γ : Ct} {elt tg iter : Expr} {ifs : List Expr} {scope : Scope} {vs : List Nat} {δ : Dl} {μ : Mu} {Q : List D → Mu → Prop}
theorem lcd_all (W : Mu → Prop) (R : D → Prop) (h : eid Γ tg iter δ μ fun ds S μ1 => ds.length ≤ 1000000 ∧ W μ1 ∧ (∀ μ', W μ' → S μ') ∧
      (∀ d ∈ ds, ∀ μ', W μ' → allB Γ scope fun Γb => gv Γb tg d vs (wipeD δ vs) μ' fun δ2 μ2 => allB Γ scope fun Γc => eif Γc ifs δ2 μ2 fun b μ3 => if b = true then allB Γ scope fun Γd => ed Γd elt δ2 μ3 fun r μ4 => R r ∧ W μ4 else W μ3) ∧
      ∀ acc μ', (∀ r ∈ acc, R r) → acc.length ≤ ds.length → W μ' → Q acc μ') : lcd Γ elt tg iter ifs scope vs δ μ Q := fun F σ H a => wi_mono (h F σ H a) fun J H1 ⟨F1, ds, S, μ1, s1, a1, ok, hz, hW, hS, hb, hq⟩ => by
  refine ⟨F1, ds, S, μ1, s1, a1, ok, hz, fun i acc μ' => (∀ r ∈ acc, R r) ∧ acc.length ≤ i ∧ W μ', ⟨fun _ z => (List.not_mem_nil z).elim, Nat.le_refl _, hW⟩, fun i acc μ' _ z => ⟨hS μ' z.2.2, z.2.1⟩, ?_, fun acc μ' z => hq acc μ' z.1 z.2.1 z.2.2⟩
  rintro i d acc μ' hd ⟨z1, z2, z3⟩
  intro s H C cl fp F0 μ0 H0 F2 σ2 H2 v a2 r2
  refine wg_mono (hb d (List.mem_of_getElem? hd) μ' z3 s H C cl fp F0 μ0 H0 F2 σ2 H2 v a2 r2) fun σ3 H3 ⟨w3, F3, δ3, μ3, s3, a3, q3⟩ => ⟨w3, F3, δ3, μ3, s3, a3, ?_⟩
  intro s' H' C' cl' fp' F0' μ0' H0'
  have key : ∀ {b : Bool} {μ4 : Mu}, (if b = true then allB Γ scope fun Γd => ed Γd elt δ3 μ4 fun r μ5 => R r ∧ W μ5 else W μ4) →
      if b = true then allB Γ scope fun Γd => ed Γd elt δ3 μ4 fun r μ5 => (∀ r' ∈ acc ++ [r], R r') ∧ (acc ++ [r]).length ≤ i + 1 ∧ W μ5 else (∀ r' ∈ acc, R r') ∧ acc.length ≤ i + 1 ∧ W μ4 := fun {b μ4} z => by
    cases b with
    | false => exact ⟨z1, Nat.le_succ_of_le z2, z⟩
    | true =>
      intro s2 H2' C2 cl2 fp2 F02 μ02 H02 F5 σ5 H5 a5
      refine we_mono (z s2 H2' C2 cl2 fp2 F02 μ02 H02 F5 σ5 H5 a5) fun v' H6 ⟨F6, r, μ6, s6, a6, r6, q1, q2⟩ => ⟨F6, r, μ6, s6, a6, r6, fun r' hr' => ?_, by rw [List.length_append]; exact Nat.succ_le_succ z2, q2⟩
      rcases List.mem_append.mp hr' with e | e
      · exact z1 r' e
      · rw [List.mem_singleton.mp e]; exact q1
  have q4 := q3 s' H' C' cl' fp' F0' μ0' H0'
  match ifs, q4 with
  | [], q4 => exact key (b := true) (μ4 := μ3) q4
  | [c], q4 => exact fun F5 σ5 H5 a5 => wt_mono (q4 F5 σ5 H5 a5) fun b H6 ⟨F6, μ6, s6, a6, q6⟩ => ⟨F6, μ6, s6, a6, key q6⟩
end
/-! ### lists of texts compared -/
/-! ### isinstance of built-in types -/
theorem kb_NoneType_str : kitB "NoneType" "str" = some false := by decide +kernel
theorem kb_NoneType_int : kitB "NoneType" "int" = some false := by decide +kernel
theorem kb_NoneType_bool : kitB "NoneType" "bool" = some false := by decide +kernel
theorem kb_NoneType_list : kitB "NoneType" "list" = some false := by decide +kernel
theorem kb_NoneType_tuple : kitB "NoneType" "tuple" = some false := by decide +kernel
theorem kb_bool_str : kitB "bool" "str" = some false := by decide +kernel
theorem kb_bool_int : kitB "bool" "int" = some true := by decide +kernel
theorem kb_bool_bool : kitB "bool" "bool" = some true := by decide +kernel
theorem kb_bool_list : kitB "bool" "list" = some false := by decide +kernel
theorem kb_bool_tuple : kitB "bool" "tuple" = some false := by decide +kernel
theorem kb_int_str : kitB "int" "str" = some false := by decide +kernel
theorem kb_int_int : kitB "int" "int" = some true := by decide +kernel
theorem kb_int_bool : kitB "int" "bool" = some false := by decide +kernel
theorem kb_int_list : kitB "int" "list" = some false := by decide +kernel
theorem kb_int_tuple : kitB "int" "tuple" = some false := by decide +kernel
theorem kb_str_str : kitB "str" "str" = some true := by decide +kernel
theorem kb_str_int : kitB "str" "int" = some false := by decide +kernel
theorem kb_str_bool : kitB "str" "bool" = some false := by decide +kernel
theorem kb_str_list : kitB "str" "list" = some false := by decide +kernel
theorem kb_str_tuple : kitB "str" "tuple" = some false := by decide +kernel
theorem kb_list_str : kitB "list" "str" = some false := by decide +kernel
theorem kb_list_int : kitB "list" "int" = some false := by decide +kernel
theorem kb_list_bool : kitB "list" "bool" = some false := by decide +kernel
theorem kb_list_list : kitB "list" "list" = some true := by decide +kernel
theorem kb_list_tuple : kitB "list" "tuple" = some false := by decide +kernel
theorem kb_tuple_str : kitB "tuple" "str" = some false := by decide +kernel
theorem kb_tuple_int : kitB "tuple" "int" = some false := by decide +kernel
theorem kb_tuple_bool : kitB "tuple" "bool" = some false := by decide +kernel
theorem kb_tuple_list : kitB "tuple" "list" = some false := by decide +kernel
theorem kb_tuple_tuple : kitB "tuple" "tuple" = some true := by decide +kernel
theorem kb_dict_str : kitB "dict" "str" = some false := by decide +kernel
theorem kb_dict_int : kitB "dict" "int" = some false := by decide +kernel
theorem kb_dict_list : kitB "dict" "list" = some false := by decide +kernel
theorem kb_dict_tuple : kitB "dict" "tuple" = some false := by decide +kernel
theorem ka_NoneType {K : PySem.W.Frag} : PySem.W.kitAny K (.type "NoneType") [.type "list", .type "tuple"] = some false := kitAny_cons (kit_ty kb_NoneType_list) (fun _ => kitAny_cons (kit_ty kb_NoneType_tuple) (fun _ => kitAny_nil) fun h => nomatch h) fun h => nomatch h
theorem ka_bool {K : PySem.W.Frag} : PySem.W.kitAny K (.type "bool") [.type "list", .type "tuple"] = some false := kitAny_cons (kit_ty kb_bool_list) (fun _ => kitAny_cons (kit_ty kb_bool_tuple) (fun _ => kitAny_nil) fun h => nomatch h) fun h => nomatch h
theorem ka_int {K : PySem.W.Frag} : PySem.W.kitAny K (.type "int") [.type "list", .type "tuple"] = some false := kitAny_cons (kit_ty kb_int_list) (fun _ => kitAny_cons (kit_ty kb_int_tuple) (fun _ => kitAny_nil) fun h => nomatch h) fun h => nomatch h
theorem ka_str {K : PySem.W.Frag} : PySem.W.kitAny K (.type "str") [.type "list", .type "tuple"] = some false := kitAny_cons (kit_ty kb_str_list) (fun _ => kitAny_cons (kit_ty kb_str_tuple) (fun _ => kitAny_nil) fun h => nomatch h) fun h => nomatch h
theorem ka_list {K : PySem.W.Frag} : PySem.W.kitAny K (.type "list") [.type "list", .type "tuple"] = some true := kitAny_cons (kit_ty kb_list_list) (fun h => nomatch h) fun _ => rfl
theorem ka_tuple {K : PySem.W.Frag} : PySem.W.kitAny K (.type "tuple") [.type "list", .type "tuple"] = some true := kitAny_cons (kit_ty kb_tuple_list) (fun _ => kitAny_cons (kit_ty kb_tuple_tuple) (fun h => nomatch h) fun _ => rfl) fun h => nomatch h
theorem ka_dict {K : PySem.W.Frag} : PySem.W.kitAny K (.type "dict") [.type "list", .type "tuple"] = some false := kitAny_cons (kit_ty kb_dict_list) (fun _ => kitAny_cons (kit_ty kb_dict_tuple) (fun _ => kitAny_nil) fun h => nomatch h) fun h => nomatch h
section
variable {Γ : Ct} {δ : Dl} {μ : Mu} {Q : D → Mu → Prop}
/-- isinstance(x, (list, tuple)) of a sequence -/
theorem cld_isiSeq {x : D} {xs : List D} (hs : SeqD μ x xs) (q : Q (.bl true) μ) : cld Γ (.builtin "isinstance") [x, .tup [.ty "list", .ty "tuple"]] δ μ Q := by
  cases hs with
  | lst => exact cld_isiT (.lst _) (us := [.type "list", .type "tuple"]) rfl ka_list q
  | rl => exact cld_isiT (.rl _) (us := [.type "list", .type "tuple"]) rfl ka_list q
  | tup => exact cld_isiT (.tup _) (us := [.type "list", .type "tuple"]) rfl ka_tuple q
  | own h => exact cld_isiT (.own h) (us := [.type "list", .type "tuple"]) rfl ka_list q
/-- .. of what is none -/
theorem cld_isiNoSeq {x : D} {a : String} (h : TyQ Γ.X.K μ x (.type a)) (hk : PySem.W.kitAny Γ.X.K (.type a) [.type "list", .type "tuple"] = some false) (q : Q (.bl false) μ) : cld Γ (.builtin "isinstance") [x, .tup [.ty "list", .ty "tuple"]] δ μ Q := cld_isiT h (us := [.type "list", .type "tuple"]) rfl hk q
end
/-! ### any sequence -/
section
variable {Γ : Ct} {δ : Dl} {μ : Mu} {Q : D → Mu → Prop} {x : D} {xs : List D}
theorem cld_tuple_rl (q : Q (.tup xs) μ) : cld Γ (.type "tuple") [.rl xs] δ μ Q := cld_of call_tuple_of fun F σ H vs a r0 => by
  obtain ⟨v, rfl, r⟩ := r0.one
  obtain ⟨p1, vs, rfl, h1, h2⟩ := dpRl r
  refine ⟨p1, vs, rfl, .inl ⟨a.sx.sub.seq h1, fun p hp => ?_⟩⟩
  exact PostE.new a hp (dpt (.inl (.inl upd_same)) (h2.mono (same_upd (a.sx.sub.free hp)))) q
theorem cld_tuple_seq (hs : SeqD μ x xs) (q : Q (.tup xs) μ) : cld Γ (.type "tuple") [x] δ μ Q := by
  cases hs with
  | lst => exact cld_tuple_lst q
  | rl => exact cld_tuple_rl q
  | tup => exact cld_tuple_tup q
  | own h => exact cld_tuple_own h q
end
def strOf : D → Str | .str x => x | _ => ""
theorem SeqD.cons {μ : Mu} {x : D} {xs : List D} (h : SeqD μ x xs) (c : Addr × Cell) : SeqD (c :: μ) x xs := by
  cases h with
  | lst => exact .lst _
  | rl => exact .rl _
  | tup => exact .tup _
  | own h => exact .own (List.mem_cons_of_mem _ h)
/-! ### defs with defaults -/
theorem CallD.mkD {P : Program} {w : World} {K : PySem.W.Frag} {mg : Str → Option Value} {base : Heap} {k : Nat} {f : Addr} {sp : SpD} {x qual : Str} {params : Arguments} {body : List Stmt} {scope : Scope} {dvs : List V} {kws : List (Str × V)} {fd : FuncData} {ps : List Str} (F : FunD K x qual params body scope dvs kws f fd) (G : ∀ {b : Bool}, FnD b P w K mg base k f fd ps sp)
    (n j : Nat) (hd : dvs ≠ []) (hn : n + (dvs.length - j) = ps.length) (dds : List D) (hdd : DfD K dds (dvs.drop j))
    (h : ∀ (T : Addr) (kV doc pm : Value) (an : Option Addr) (cdv ct : Value) (us its : List Value), us.length = n → its.length = dvs.length →
      ∃ k, bindArgs (PySem.W.fnOf x qual params body scope (.ref T) kV doc pm an cdv ct) ⟨us, []⟩ = seqItems? (.ref T) >>= k ∧ k (some its.toArray) = pure (ps.zip (us ++ its.drop j))) : CallD P w K mg base k f ps.length dds sp := by
  obtain ⟨ds, v, b⟩ := F.binds1 n j hd hn h
  exact ⟨fun _ => ⟨⟨fd, ps, _, ds, rfl, b, v, hdd, G⟩, F.kp⟩⟩
/-! ### texts that are joined -/
theorem len_joinL (S : List Nat) : ∀ ps : List (List Nat), (TL.joinL S ps).length ≤ (ps.map (·.length)).sum + ps.length * S.length
  | [] => by simp [TL.joinL]
  | [p] => by simp [TL.joinL]
  | p :: q :: r => by
    have ih := len_joinL S (q :: r)
    show (p ++ (S ++ TL.joinL S (q :: r))).length ≤ _
    rw [List.length_append, List.length_append, List.map_cons, List.sum_cons, List.length_cons, Nat.succ_mul]
    omega
theorem len_join (z : Str) (ys : List Str) : (Txt.join z ys).length ≤ (ys.map (·.length)).sum + ys.length * z.length := by
  have h := len_joinL (TL.tl z) (ys.map TL.tl)
  rw [← TL.tl_join, ← TL.join_eq, List.map_map, List.length_map] at h
  exact h
theorem sum_le {ys : List Str} {n : Nat} (h : ∀ y ∈ ys, y.length ≤ n) : (ys.map (·.length)).sum ≤ ys.length * n := by
  induction ys with
  | nil => simp
  | cons y ys ih =>
    have h1 := h y List.mem_cons_self
    have h2 := ih fun z hz => h z (List.mem_cons_of_mem _ hz)
    rw [List.map_cons, List.sum_cons, List.length_cons, Nat.succ_mul]
    omega
section
variable {Γ : Ct} {δ : Dl} {μ : Mu} {Q : D → Mu → Prop} {x : D} {xs : List D}
theorem mtd_joinS {z : Str} (ys : List Str) (hs : SeqD μ x xs) (e : xs = ys.map .str) (hl : (ys.map (·.length)).sum + ys.length * z.length ≤ 16777216) (q : Q (.str (Txt.join z ys)) μ) :
    mtd Γ "str.join" (.str z) [x] δ μ Q := mtd_of mt_join fun F σ H vx vs a r1 r2 => by
  rw [dpS r1]
  obtain ⟨v, rfl, r3⟩ := r2.one
  obtain ⟨p, vs, rfl, h1, h2⟩ := seqD_run a hs r3
  subst e
  obtain rfl := Dps.strs h2
  exact ⟨z, p, ys, rfl, rfl, h1, hl, PostE.here a dps q⟩
end
/-! ### a cell that is needed no more -/
section
variable {Γ : Ct} {e : Expr} {δ : Dl} {μ : Mu} {Q : D → Mu → Prop}
theorem cell_some {K : PySem.W.Frag} {F H : Hp} {p : Addr} {c : Cell} (h : CellOk K F H p c) : ∃ o, H p = some o := by
  cases c with
  | lst ds => obtain ⟨vs, h, _⟩ := h; exact ⟨_, h⟩
  | ins C dx ns ds => obtain ⟨gs, h, _⟩ := h; exact ⟨_, h⟩
  | dK ks ds => obtain ⟨kvs, h, _⟩ := h; exact ⟨_, h⟩
  | dT ks ds => obtain ⟨kvs, h, _⟩ := h; exact ⟨_, h⟩
  | dF od gs ds => exact ⟨_, h.1⟩
  | set S n => exact ⟨_, h⟩
end
end PD
/-! PD13: the order of the cells, cells given up; truth values by repr and is. -/
namespace PD
open PySem PySem.Spec PyProof.Rows L2
section
variable {Γ : Ct} {F : Hp} {δ : Dl} {μ μ' : Mu} {σ : L2.St} {H : Hp} {e : Expr} {rest : List Stmt} {st : Stmt} {E : En} {Q : D → Mu → Prop}
theorem dom_perm (p : μ.Perm μ') : (dom μ).Perm (dom μ') := p.map _
theorem At.perm (a : At Γ F δ μ σ H) (p : μ.Perm μ') : At Γ F δ μ' σ H where
  st := ⟨a.st.ext, a.st.keep, a.st.new, fun b hb => a.st.cell b ((dom_perm p).mem_iff.mpr hb)⟩
  sx := ⟨a.sx.sub, fun c hc => a.sx.off c (p.mem_iff.mpr hc), (dom_perm p).nodup_iff.mp a.sx.nd, fun c hc => a.sx.cells c (p.mem_iff.mpr hc)⟩
  fr := a.fr
theorem sds_mu (μ' : Mu) (p : μ.Perm μ') (h : sds Γ rest δ μ' E) : sds Γ rest δ μ E := fun F σ H a => h F σ H (a.perm p)
end
section
variable {Γ : Ct} {δ : Dl} {μ : Mu} {Q : D → Mu → Prop}
theorem call_repr_bl {X : Cx} : CallR X (.builtin "repr") (fun xs H Q => ∃ b, xs = [.bl b] ∧ Q (.str (if b then "True" else "False")) H) := fun pins s σ H xs us Q I r h => by
  obtain ⟨b, rfl, q⟩ := h
  obtain ⟨u, rfl, e⟩ := vals1 r
  obtain rfl : u = Value.bool b := e
  exact PySem.P.repr_of_bool ⟨.str _, H, I.tok _, ⟨_, rfl⟩, q⟩
theorem cld_repr_bl {b : Bool} (q : Q (.str (if b then "True" else "False")) μ) : cld Γ (.builtin "repr") [.bl b] δ μ Q := cld_of call_repr_bl fun F σ H vs a r0 => by
  obtain ⟨v, rfl, r⟩ := r0.one
  rw [dpB r]; exact ⟨b, rfl, PostE.here a dps q⟩
theorem op_isB {X : Cx} : OpR X (compareOp .Is) (fun x y H Q => ∃ a b, x = .bl a ∧ y = .bl b ∧ Q (.bl (a == b)) H) := fun pins s σ H x y v u Q I rx ry h => by
  obtain ⟨a, b, rfl, rfl, q⟩ := h
  obtain rfl : v = Value.bool a := rx
  obtain rfl : u = Value.bool b := ry
  exact wpAny_is_plain rfl (fin_bl I q (by cases a <;> cases b <;> rfl))
theorem opd_isB {a b : Bool} (q : Q (.bl (a == b)) μ) : opd Γ (compareOp .Is) (.bl a) (.bl b) δ μ Q := opd_of op_isB fun F σ H vx vy a' r1 r2 => by
  rw [dpB r1, dpB r2]; exact ⟨a, b, rfl, rfl, PostE.here a' dpb q⟩
end
section
variable {Γ : Ct} {δ : Dl} {μ : Mu} {Q : D → Mu → Prop}
theorem depth_bl (b : Bool) : (D.bl b).py.depth ≤ 64 := by rw [D.py, PyData.depth]; omega
theorem eqD_bl (a b : Bool) : eqD (.bl a) (.bl b) = (a == b) := by unfold eqD; rw [D.py, D.py, PyData.eqv]
theorem opd_neB {a b : Bool} (hu : Γ.X.A.units + 64 < cLine) (q : Q (.bl (!(a == b))) μ) : opd Γ (compareOp .NotEq) (.bl a) (.bl b) δ μ Q := opd_neV hu (.same _) (.same _) (by rw [D.ok]) (by rw [D.ok]) (depth_bl a) (depth_bl b) (by rw [eqD_bl]; exact q)
end
end PD
/-! PD14: own exceptions that keep one thing, over any built-in base: made, raised. -/
namespace PySem
namespace PDX
open PySem.W PySem.Calls PyProof.Rows Builtin Builtin.ObjectAttr
section
variable {prog : Program} {w : World} {A : Around} {E : Value → Shared → Prop} {R : Result → Shared → Prop} {hp : Heap} {g : Array GenState} {d : Drawn} {t : Nat} {os : OsState}
/-- the first thing that is stored on an exception: its dict is laid -/
theorem first_store {B : String} {tl : List Value} {K : Frag} {name : Str} {tk : Tok} {v : Value} {x C : Addr} {fv : Array Value} {cd : ClassData} (SF : StoreFacts B tl "object.__setattr__" "object") (X : K.In hp)
    (hx : hp.get? x = some { cls := .ref C, data := .fields fv }) (ho : excOver K C tl = true) (hcd : clsIn K C = some cd) (hh : cd.hasDict = true) (ha : findIn K (.ref C) name = some none)
    (k : ∀ h' tk' dx, (∀ b o, b ≠ x → hp.get? b = some o → h'.get? b = some o) → hp.objs.size ≤ dx → dx ≠ x → h'.get? x = some { cls := .ref C, dict := some dx, data := .fields fv } → h'.Ns1 dx (fun y => if y = name then some v else none) → R (.ok (.ret .none)) ⟨h', g, d, tk', os⟩) :
    codeAny (model prog w) A (.call (.builtin "object.__setattr__") ⟨[.ref x, .str name tk, v], []⟩) R ⟨hp, g, d, t, os⟩ := by
  have J : InstAt hp x { cls := .ref C, data := .fields fv } C none := ⟨hx, rfl, rfl, trivial⟩
  have no : takerIn K C name = some none := by unfold takerIn; rw [ha]; rfl
  have far : x ≠ hp.objs.size := Nat.ne_of_lt (Heap.lt_size hx)
  have LC : Looks (model prog w) hp (classData C) cd := looks_clsIn X hcd
  refine osa_openX (od := none) SF X J ho no fun b => ?_
  show wpAny _ _ (storeInOwnDict (.ref x) (.ref C) (.str name tk) name v b) _ _ _
  obtain ⟨c1, c2, c3, c4, c5, c6, c7, c8, c9, c10, c11⟩ := cd
  dsimp only at hh
  subst hh
  unfold storeInOwnDict ownDictForStores
  repeat (first | with_reducible refine PySem.HandSPX.store_in_new ?_ ?_ | with_reducible refine wpAny_loadPart_at hx ?_ | with_reducible refine LC.at ?_ | wp_step)
  · exact ⟨_, #[], _, (Heap.get?_update_ne _ _ _ _ far.symm).trans (Heap.get?_push_at rfl rfl), rfl, fun e he => absurd he (by simp), fun _ => rfl⟩
  · intro h' tk' hn' hs
    have hx1 : (hp.push { cls := .type "dict", data := .dict #[] }).get? x = some { cls := .ref C, data := .fields fv } := Heap.get?_push_of_some _ hx
    exact k h' tk' hp.objs.size (fun b o hb ho => (hs.2 b (Nat.ne_of_lt (Heap.lt_size ho))).trans ((Heap.get?_update_ne _ _ _ _ hb).trans (Heap.get?_push_of_some _ ho))) (Nat.le_refl _) far.symm
      ((hs.2 x far).trans (Heap.get?_update_self _ hx1 rfl)) hn'
end
end PDX
end PySem
namespace PD
open PySem PySem.Spec PyProof.Rows L2
theorem nm_vis {N : List Str} {sc : Scope} {i : Nat} {x : Str} (n : Nm N sc i x) : Vis sc x := by
  rcases n.loc with h | h
  · exact .inl h
  · exact .inr (.inl h)
/-- a built-in base of exceptions -/
structure Bas (B newId initId : String) (tl : List Value) : Prop where
  F : ExcBaseFacts B newId initId tl
  S : PySem.StoreFacts B tl "object.__setattr__" "object"
/-- an own class over it -/
structure OexG (newId : String) (tl : List Value) (K : PySem.W.Frag) (C : Addr) : Prop where
  cls : ∃ nm q N bs bm sn sub ab col dd k0 k1 k2 k3 k5, K.lookup C = some (excClassObj nm q C N bs bm true sn sub ab col dd k0 k1 k2 k3 k5 newId) ∧ PySem.W.excTail tl bm = true
  sa : PySem.W.findIn K (.ref C) "__setattr__" = some (some (.builtin "object.__setattr__"))
  exC : PySem.W.subIn K (.ref C) (.type "BaseException") = some true
  tyC : PySem.W.typeIn K (.ref C) = some (.type "type")
  kC : PySem.W.keepIn K (.ref C) = true
section
variable {X : Cx} {B newId initId : String} {tl : List Value}
/-- self.f = y, the first one -/
theorem st_first {pins : List (Addr × Obj)} {σ : L2.St} {H : Hp} {s : Shared} {a C : Addr} {f : Str} {y : V} {u : Value} {Q : Unit → Shared → Prop} {E : Value → Shared → Prop} {A : Around} (Z : Bas B newId initId tl) (T : OexG newId tl X.K C) (I : Inv X pins σ H s) (e : H a = some (exo a C none))
    (hno : PySem.W.findIn X.K (.ref C) f = some none) (ry : RelV y u) (h : ∀ dx s', H dx = none → dx ≠ a → Inv X pins σ (upd (upd H dx (exd dx [(f, y)])) a (exo a C (some dx))) s' → Q () s') : wpAny (model X.prog X.w) A (setAttr (.ref a) f u) Q E s := by
  obtain ⟨nm, q, N, bs, bm, sn, sub, ab, col, dd, k0, k1, k2, k3, k5, look, tail⟩ := T.cls
  have cl : PySem.W.clsIn X.K C = some { name := nm, bases := bs, mro := .ref C :: bm, ns := N, qualname := q, hasDict := true, slotNames := sn, subclasses := sub, abstract := ab, collection := col, hasDel := false } := by unfold PySem.W.clsIn; rw [look] <;> rfl
  have over : PySem.W.excOver X.K C tl = true := by
    unfold PySem.W.excOver
    rw [cl]
    show (C == C && PySem.W.excTail tl bm) = true
    rw [tail, beq_self_eq_true]; rfl
  obtain ⟨t1, stands⟩ := exo_at I.hok e
  obtain ⟨hp, g, d, t, os⟩ := s
  refine PySem.W.set_plain I.kIn (ox := { cls := .ref C, dict := none, data := .fields #[.ref t1, .none, .none, .none, .bool false, .none] }) (od := none) ⟨stands, rfl, rfl, trivial⟩ T.sa (PySem.PDX.first_store Z.S I.kIn stands over cl rfl hno fun h' tk' dx keep dn dne hx hn => ?_)
  have free : H dx = none := I.hok.fresh dn
  have old : ∀ {b : Addr} {o : Obj}, hp.get? b = some o → b ≠ dx := fun {b o} z => Nat.ne_of_lt (Nat.lt_of_lt_of_le (Heap.lt_size z) dn)
  have nota : ∀ {b : Addr}, H b = none → b ≠ a := fun {b} n z => by rw [z, e] at n; cases n
  have un : Un X.fs [] H (upd (upd H dx (exd dx [(f, y)])) a (exo a C (some dx))) hp h' :=
    ⟨fun b o z n _ _ => keep b o (nota n) z, fun b o z n _ _ => ⟨o.slots, keep b o (nota n) z⟩, fun b o z n _ => (upd_ne (nota n)).trans ((upd_ne (old z)).trans n), fun b o z _ => by
        by_cases q : b = a
        · exact ⟨_, q ▸ hx⟩
        · exact ⟨o, keep b o q z⟩, fun b xs z => (upd_ne (at_ne e z exo_tup)).trans ((upd_ne (ne_of_none z free)).trans z), fun b o v z => (upd_ne (at_ne e z exo_frz)).trans ((upd_ne (ne_of_none z free)).trans z),
      fun b ps z => ⟨#[], by rw [upd_ne (at_ne e z exo_tbl), upd_ne (ne_of_none z free), z]; simp⟩⟩
  refine h dx _ free dne (I.un (t' := tk') un fun b o z => ?_)
  by_cases q : b = a
  · subst q
    rw [upd_same] at z
    cases z
    exact exo_ok hx
  · rw [upd_ne q] at z
    by_cases q2 : b = dx
    · subst q2
      rw [upd_same] at z
      cases z
      exact exd_ok hn (relO_put (fs := []) ry fun _ => True.intro)
    · rw [upd_ne q2] at z
      refine (I.hok b o z).stay (fun c v hc y => keep c v ?_ y) (fun c hc => (upd_ne (at_ne e hc exo_own)).trans ((upd_ne (ne_of_none hc free)).trans hc)) fun c xs hc => (upd_ne (at_ne e hc exo_tup)).trans ((upd_ne (ne_of_none hc free)).trans hc)
      rcases hc with rfl | hc
      · exact q
      · exact at_ne e hc exo_own
theorem ps_stFirst {o e : Expr} {to te : TE} {f : Str} {p' pos : Pos} (Z : Bas B newId initId tl) (ho : PE X o to) (he : PE X e te) (hs : swapsWith e (some (.Attribute o f p')) pos.line X.env = pure false := by rfl) :
    PS X (.Assign [.Attribute o f p'] e pos) (fun D σ H => te σ H fun y H1 => to σ H1 fun x H2 => ∃ a C : Addr, x = .ref a ∧ OexG newId tl X.K C ∧ PySem.W.findIn X.K (.ref C) f = some none ∧ H2 a = some (exo a C none) ∧ ∀ dx, H2 dx = none → dx ≠ a → D.nx σ (upd (upd H2 dx (exd dx [(f, y)])) a (exo a C (some dx)))) where
  run := fun pins s σ H D I h => plainObj_wpAny_Assign_Attribute (thn (he.run pins s σ H _ I h) fun v s1 ⟨y, H1, I1, r1, q1⟩ => thn (ho.run pins s1 σ H1 _ I1 q1) fun u s2 ⟨x, H2, I2, r2, a, C, ex, T, hno, ea, q⟩ => by
    subst ex
    obtain rfl : u = Value.ref a := r2
    exact st_first Z T I2 ea hno r1 fun dx s' n ne J => ⟨σ, _, J, q dx n ne⟩) hs
/-- C(e, ..): what is made has None for its context -/
theorem pmk_gN {e : Expr} {es : List Expr} {ta : TA} {p pos : Pos} {CX : CXT} {x : Str} {C fI : Addr} {k : Nat} {fd : FuncData} {ps : List Str} {sp : Sp} {ds : List Value} {dvs : List V} (Z : Bas B newId initId tl) (T : OexG newId tl X.K C)
    (iC : PySem.W.findIn X.K (.ref C) "__init__" = some (some (.ref fI))) (tI : PySem.W.typeIn X.K (.ref fI) = some (.type "function")) (G : L2.FnOk X.prog X.w X.K X.mg X.base CX k fI fd ps sp) (hr : L2.Room (k + 1) X.A) (hb : Binds X.K fd ps ds) (hd : Vals dvs ds) (hx : Passes CX X (fun _ _ _ => False))
    (hg : Gl X x) (hm : X.mg x = some (.ref C)) (ha : PA X (e :: es) ta) (hdb : (x == ("__debug__" : Str)) = false) (he : starEach (e :: es) X.env = (false, eval e X.env) :: starEach es X.env) (hpl : (backTo pos (starEach es X.env)).any (·.1) = false) :
    L2N.PMk X (.Call (.Name x p) (e :: es) [] pos) (tMkO C sp dvs ta) := fun pins s σ H Q I h => by
  obtain ⟨nm, q, N, bs, bm, sn, sub, ab, col, dd, k0, k1, k2, k3, k5, look, tail⟩ := T.cls
  refine wpAny_Call_Name_kw (ld_glob I hg hm (PySem.W.callWith_K (h₀ := X.base) I.ok.mod.kin T.kC (thn (ha.run pos pins s σ H _ I h) fun us s1 ⟨vs, H1, I1, r1, hz, q1⟩ => ⟨I1.kIn, ?_⟩) he hpl) hdb)
  obtain ⟨hp, g, dr, tk, os⟩ := s1
  let n := hp.objs.size
  let hp2 := (hp.push (PySem.W.kdv_tup us)).push (PySem.HandSPX.excO C n)
  have nn : n ≤ n + 1 := Nat.le_succ _
  have want := q1 (n + 1) (I1.hok.fresh nn)
  have keep : ∀ b o, hp.get? b = some o → hp2.get? b = some o := fun b o z => Heap.get?_push_of_some _ (Heap.get?_push_of_some _ z)
  have there : hp2.get? (n + 1) = some (PySem.HandSPX.excO C n) := by
    show ((hp.push (PySem.W.kdv_tup us)).push (PySem.HandSPX.excO C hp.objs.size)).get? (hp.objs.size + 1) = _
    heap_get
  have I2 : Inv X pins σ (upd H1 (n + 1) (exo (n + 1) C none)) ⟨hp2, g, dr, tk, os⟩ := I1.laid (t' := tk) (a := n + 1) (o := exo (n + 1) C none) (h' := hp2) keep nn (exo_ok there)
  have rr : Vals (V.ref (n + 1) :: (vs ++ dvs)) (Value.ref (n + 1) :: (us ++ ds)) := .cons rfl (r1.append hd)
  have ln : (Value.ref (n + 1) :: us ++ ds).length = ps.length := (rr.length.symm.trans (G.len _ _ _ _ want) :)
  have small : us.length ≤ sizeLine := by rw [← Paired.length r1, sizeLine_eq]; omega
  have go := G.run _ X.stack _ _ ⟨Value.ref (n + 1) :: us, []⟩ _ _ _ (fun _ _ _ => False) (hr.make C us []) (I2.env0.make C us []) (hb _ (Value.ref (n + 1) :: us) I2.kIn ln) rr want
  refine wpAny_call (PySem.HandSPX.call_own Z.F (fun Y => PySem.W.excTail_contains Y bm tail) (I1.kIn _ _ look) (PySem.W.looks_findIn I1.kIn iC) (fun self => PySem.W.bind_fn I1.kIn self tI) small (codeAny_mono go fun res s' z => ?_))
  match res, z with
  | .error er, z => exact hx pins σ _ _ er s' I2 z
  | .ok (.ret u), z =>
    obtain ⟨v, H2, os2, bare2, un2, hok2, rv, rfl, d, fs, ea, ed, hd1, q2⟩ := z
    obtain ⟨h2, g2, d2, t2, os'⟩ := s'
    obtain ⟨t0, G2, J, kG, ge, hoe, na⟩ := mk_end0 (d2 := d2) (t2 := t2) I1 nn keep un2 hok2 os2 bare2 ea ed hd1
    exact ⟨rv, n + 1, _, _, ⟨G2, g2, d2, t2, os'⟩, _, .ref C, some d, rfl, J, kG, ge, hoe, ⟨rfl, rfl, fun vs hv => by cases hv; rfl⟩, rfl, rfl, na, rfl, bare2, raises_own T.exC T.tyC, q2⟩
theorem pmk_all {e : Expr} {t : L2.St → Hp → XK → Prop} (h : L2N.PMk X e t) : L2.PMk X e t := fun pins s σ H Q I q => thn (h pins s σ H Q I q) fun u s' ⟨a, oe, vs, sI, H', cls, d, y1, y2, y3, y4, y5, y6, y7⟩ => ⟨a, oe, vs, sI, H', cls, d, y1, y2, y3, y4, y5, y6.zc, y7⟩
end
/-! ### def __init__(self, x): self.f = x -/
def spOexG (newId : String) (tl : List Value) (K : PySem.W.Frag) (fl : Str) : Sp := fun vs H Q _ => ∃ a C v, vs = [.ref a, v] ∧ OexG newId tl K C ∧ PySem.W.findIn K (.ref C) fl = some none ∧ H a = some (exo a C none) ∧ ∀ dx, H dx = none → dx ≠ a → Q .non (upd (upd H dx (exd dx [(fl, v)])) a (exo a C (some dx)))
section
variable {P : Program} {w : World} {K : PySem.W.Frag} {mg : Str → Option Value} {base : Heap} {B newId initId : String} {tl : List Value}
theorem fn_oexG {fl xs xx qual : Str} {params : Arguments} {scope : Scope} {kws : List (Str × V)} {fI : Addr} {fd : FuncData} {N : List Str} {k : Nat} {p1 p2 p3 p4 : Pos} (Z : Bas B newId initId tl) (F : FunD K "__init__" qual params [.Assign [.Attribute (.Name xs p1) fl p2] (.Name xx p3) p4] scope [] kws fI fd) (S : FnScope N [xs, xx] scope) (n0 : Nm N scope 0 xs) (n1 : Nm N scope 1 xx) :
    L2.FnOk P w K mg base (L2.CX P w) (k + 1) fI fd [xs, xx] (spOexG newId tl K fl) := by
  refine F.ok S (fun vs H Q E h => ?_) (fun cdv A outer s H vs Q E hr h => ?_)
  · obtain ⟨a, C, v, rfl, _⟩ := h; rfl
  · obtain ⟨a, C, v, rfl, T, hno, ha, q⟩ := h
    exact ⟨_, pss_one (ps_stFirst Z (pe_var (i := 0) n0.at_ (nm_vis n0) n0.dbg n0.cls) (pe_var (i := 1) n1.at_ (nm_vis n1) n1.dbg n1.cls)), v, rfl, .ref a, rfl, a, C, rfl, T, hno, ha, fun dx h1 h2 => q dx h1 h2⟩
end
/-- an own exception class whose __init__ keeps one thing under fl -/
structure ExcMk (P : Program) (w : World) (K : PySem.W.Frag) (mg : Str → Option Value) (base : Heap) (C : Addr) (fl : Str) : Prop where
  hno : PySem.W.findIn K (.ref C) fl = some none
  ex : ∃ B newId initId tl fI fd ps, Bas B newId initId tl ∧ OexG newId tl K C ∧ PySem.W.findIn K (.ref C) "__init__" = some (some (.ref fI)) ∧ PySem.W.typeIn K (.ref fI) = some (.type "function") ∧ Binds K fd ps [] ∧ L2.FnOk P w K mg base (L2.CX P w) 1 fI fd ps (spOexG newId tl K fl)
section
variable {Γ : Ct} {δ : Dl} {μ : Mu} {E : En} {e : Expr} {x fl : Str} {C : Addr} {p p2 pos : Pos} {j : Nat}
theorem pass_none {X : Cx} : Passes (L2.CX X.prog X.w) X (fun _ _ _ => False) := fun pins σ H s e s' I h => by
  obtain ⟨_, _, _, _, _, _, _, _, _, _, _, _, z⟩ := h
  exact z.elim
theorem upd_del {H : Hp} {a dx : Addr} {o o1 o2 o3 : HO} (ha : H a = none) (hne : dx ≠ a) : upd (del (upd (upd (upd H a o) dx o1) a o2) a) dx o3 = upd H dx o3 := by
  funext b
  by_cases e : b = dx
  · subst e; rw [upd_same, upd_same]
  · rw [upd_ne e, upd_ne e]
    by_cases e2 : b = a
    · subst e2; rw [del_same, ha]
    · rw [del_ne e2, upd_ne e2, upd_ne e, upd_ne e2]
theorem ps_raiseB {b : Bool} {X : Cx} {W : WX} {e : Expr} {t : L2.St → Hp → XK → Prop} {pos : Pos} (hc : X.calm = true) (tk : TkB b X W) (he : L2N.PMk X e t) : PS X (.Raise (some e) none pos) (fun _ σ H => t σ H fun cls d H' => W cls d σ H') := by
  cases b with
  | true => exact L2N.ps_raise hc tk he
  | false => exact L2.ps_raise hc tk (pmk_all he)
theorem sd_raiseOwn (hc : Γ.X.calm = true) (M : ExcMk Γ.X.prog Γ.X.w Γ.X.K Γ.X.mg Γ.X.base C fl) (hr : Room j Γ.X.A) (hj : 2 ≤ j) (hm : Γ.X.mg x = some (.ref C)) (h : ed Γ e δ μ fun d μ' => Γ.W (.ref C) [fl] [d] δ μ') (hg : Gl Γ.X x := by rfl) (hdb : (x == ("__debug__" : Str)) = false := by decide +kernel)
    (he : starEach [e] Γ.X.env = (false, eval e Γ.X.env) :: starEach [] Γ.X.env := by rfl) (hpl : (backTo p2 (starEach [] Γ.X.env)).any (·.1) = false := by rfl) : sd Γ (.Raise (some (.Call (.Name x p) [e] [] p2)) none pos) δ μ E := fun F σ H a => by
  obtain ⟨B, newId, initId, tl, fI, fd, ps, Z, T, i1, i2, b, G⟩ := M.ex
  refine ws_of (ps_raiseB hc Γ.tk (pmk_gN Z T i1 i2 G (hr.mono hj).r b .nil pass_none hg hm (pa_cons pe_we pa_nil he) hdb he hpl)) ?_
  refine we_mono (h F σ H a) fun v H1 ⟨F1, d, μ1, s1, a1, r1, q⟩ => ?_
  refine ⟨by simp, fun a' ha' => ⟨a', C, v, rfl, T, M.hno, upd_same, fun dx hdx hne => ⟨rfl, dx, [(fl, v)], upd_same, ?_, ?_, ?_⟩⟩⟩
  · rw [upd_ne hne, upd_same]
  · rw [upd_ne hne] at hdx; exact hdx
  · rw [upd_ne hne] at hdx
    rw [upd_del ha' hne]
    have a2 := a1.pers (.xd [(fl, v)]) hdx
    exact ⟨upd F1 dx (.xd [(fl, v)]), μ1, δ, [fl], [d], a2.st, a2.sx, a2.fr, .inr ⟨dx, [(fl, v)], rfl, upd_same, rfl, Dps.cons (r1.mono (same_upd (a1.sx.sub.free hdx))) Dps.nil⟩, q⟩
end
end PD
/-! PD15: try .. except X as e. -/
namespace PD
open PySem PySem.Spec PyProof.Rows L2
end PD
/-! PD16: what a suite asks of its exception. -/
namespace PD
open PySem PySem.Spec PyProof.Rows L2
end PD
/-! PD17: the class of an exception that keeps things. -/
namespace PD
open PySem PySem.Spec PySem.Calls PyProof.Rows L2
end PD
/-! PD18: what the top tells of own exception classes, by looking. -/
namespace PD
open PySem PySem.Spec PyProof.Rows L2
/-- an own class over any built-in base -/
def oexgLook (newId : String) (tl : List Value) (K : PySem.W.Frag) (C : Addr) : Bool := match K.lookup C with
  | some ⟨.type "type", _, .cls cd, sl⟩ => (match cd.mro, sl.toList with
    | .ref c :: bm, [_, _, _, _, some (.builtin n), _] => decide (c = C) && (decide (n = newId) && (PySem.W.excTail tl bm && (cd.hasDict && !cd.hasDel)))
    | _, _ => false)
  | _ => false
theorem oexgLook_ok {newId : String} {tl : List Value} {K : PySem.W.Frag} {C : Addr} (h : oexgLook newId tl K C = true) : ∃ nm q N bs bm sn sub ab col dd k0 k1 k2 k3 k5, K.lookup C = some (excClassObj nm q C N bs bm true sn sub ab col dd k0 k1 k2 k3 k5 newId) ∧ PySem.W.excTail tl bm = true := by
  unfold oexgLook at h
  split at h
  · next dd cd sl look =>
    split at h
    · next c bm k0 k1 k2 k3 n k5 em es =>
      obtain ⟨e1, h⟩ := Bool.and_eq_true_iff.mp h
      obtain ⟨e2, h⟩ := Bool.and_eq_true_iff.mp h
      obtain ⟨e3, h⟩ := Bool.and_eq_true_iff.mp h
      obtain ⟨e4, e5⟩ := Bool.and_eq_true_iff.mp h
      have f1 := of_decide_eq_true e1
      have f2 := of_decide_eq_true e2
      have f5 : cd.hasDel = false := by simpa using e5
      clear e5 h
      obtain ⟨nm, bs, mro, ns, qn, hd, sn, sub, ab, col, del⟩ := cd
      obtain ⟨l⟩ := sl
      dsimp only at em es e4 f5
      subst em es e4 f5 f1 f2
      exact ⟨nm, qn, ns, bs, bm, sn, sub, ab, col, dd, k0, k1, k2, k3, k5, look, e3⟩
    · cases h
  · cases h
def oexgB (newId : String) (tl : List Value) (K : PySem.W.Frag) (C : Addr) : Bool := oexgLook newId tl K C && (He.eqO (PySem.W.findIn K (.ref C) "__setattr__") (some (some (.builtin "object.__setattr__"))) && (decide (PySem.W.subIn K (.ref C) (.type "BaseException") = some true) && (decide (PySem.W.typeIn K (.ref C) = some (.type "type")) && PySem.W.keepIn K (.ref C))))
theorem oexgB_ok {newId : String} {tl : List Value} {K : PySem.W.Frag} {C : Addr} (h : oexgB newId tl K C = true) : OexG newId tl K C := by
  obtain ⟨h1, h⟩ := Bool.and_eq_true_iff.mp h
  obtain ⟨h2, h⟩ := Bool.and_eq_true_iff.mp h
  obtain ⟨h3, h⟩ := Bool.and_eq_true_iff.mp h
  obtain ⟨h4, h5⟩ := Bool.and_eq_true_iff.mp h
  exact ⟨oexgLook_ok h1, He.eqO_ok h2, of_decide_eq_true h3, of_decide_eq_true h4, h5⟩
abbrev tlVE : List Value := [.type "ValueError", .type "Exception", .type "BaseException", .type "object"]
abbrev tlIE : List Value := [.type "IndexError", .type "LookupError", .type "Exception", .type "BaseException", .type "object"]
theorem basVE : Bas "ValueError" "ValueError.__new__" "ValueError.__init__" tlVE := ⟨PySem.F.excBase_ValueError, PySem.F.store_ValueError⟩
theorem basIE : Bas "IndexError" "IndexError.__new__" "IndexError.__init__" tlIE := ⟨PySem.F.excBase_IndexError, PySem.F.store_IndexError⟩
end PD
/-! PD19: any plain value. -/
namespace PD
open PySem PySem.Spec PyProof.Rows L2
/-- the built-in class of a datum that is no instance -/
def tyN : D → Option String
  | .non => some "NoneType"
  | .bl _ => some "bool"
  | .int _ => some "int"
  | .str _ => some "str"
  | .lst _ | .rl _ => some "list"
  | .tup _ => some "tuple"
  | .dK _ _ => some "dict"
  | _ => none
theorem tyQ_of {K : PySem.W.Frag} {μ : Mu} {x : D} {a : String} (h : tyN x = some a) : TyQ K μ x (.type a) := by
  cases x <;> cases h
  · exact .non
  · exact .bl _
  · exact .int _
  · exact .str _
  · exact .lst _
  · exact .rl _
  · exact .tup _
  · exact .dK _ _
/-- whether a plain value is of these classes -/
def isStrD : D → Bool | .str _ => true | _ => false
def isSeqD : D → Bool | .lst _ | .rl _ | .tup _ => true | _ => false
def isBlD : D → Bool | .bl _ => true | _ => false
def isIntD : D → Bool | .int _ | .bl _ => true | _ => false
def isTupD : D → Bool | .tup _ => true | _ => false
section
variable {Γ : Ct} {δ : Dl} {μ : Mu} {Q : D → Mu → Prop} {x : D}
theorem cld_isStr (h : (tyN x).isSome = true) (q : Q (.bl (isStrD x)) μ) : cld Γ (.builtin "isinstance") [x, .ty "str"] δ μ Q := by
  cases x <;> first
    | exact cld_isi (tyQ_of rfl) rfl (kit_ty kb_NoneType_str) q | exact cld_isi (tyQ_of rfl) rfl (kit_ty kb_bool_str) q | exact cld_isi (tyQ_of rfl) rfl (kit_ty kb_int_str) q | exact cld_isi (tyQ_of rfl) rfl (kit_ty kb_str_str) q
    | exact cld_isi (tyQ_of rfl) rfl (kit_ty kb_list_str) q | exact cld_isi (tyQ_of rfl) rfl (kit_ty kb_tuple_str) q | exact cld_isi (tyQ_of rfl) rfl (kit_ty kb_dict_str) q | cases h
theorem cld_isInt (h : (tyN x).isSome = true) (q : Q (.bl (isIntD x)) μ) : cld Γ (.builtin "isinstance") [x, .ty "int"] δ μ Q := by
  cases x <;> first
    | exact cld_isi (tyQ_of rfl) rfl (kit_ty kb_NoneType_int) q | exact cld_isi (tyQ_of rfl) rfl (kit_ty kb_bool_int) q | exact cld_isi (tyQ_of rfl) rfl (kit_ty kb_int_int) q | exact cld_isi (tyQ_of rfl) rfl (kit_ty kb_str_int) q
    | exact cld_isi (tyQ_of rfl) rfl (kit_ty kb_list_int) q | exact cld_isi (tyQ_of rfl) rfl (kit_ty kb_tuple_int) q | exact cld_isi (tyQ_of rfl) rfl (kit_ty kb_dict_int) q | cases h
theorem cld_isTup (h : (tyN x).isSome = true) (q : Q (.bl (isTupD x)) μ) : cld Γ (.builtin "isinstance") [x, .ty "tuple"] δ μ Q := by
  cases x <;> first
    | exact cld_isi (tyQ_of rfl) rfl (kit_ty kb_NoneType_tuple) q | exact cld_isi (tyQ_of rfl) rfl (kit_ty kb_bool_tuple) q | exact cld_isi (tyQ_of rfl) rfl (kit_ty kb_int_tuple) q | exact cld_isi (tyQ_of rfl) rfl (kit_ty kb_str_tuple) q
    | exact cld_isi (tyQ_of rfl) rfl (kit_ty kb_list_tuple) q | exact cld_isi (tyQ_of rfl) rfl (kit_ty kb_tuple_tuple) q | exact cld_isi (tyQ_of rfl) rfl (kit_ty kb_dict_tuple) q | cases h
theorem cld_isSeq (h : (tyN x).isSome = true) (q : Q (.bl (isSeqD x)) μ) : cld Γ (.builtin "isinstance") [x, .tup [.ty "list", .ty "tuple"]] δ μ Q := by
  cases x <;> first
    | exact cld_isiNoSeq (a := "NoneType") (tyQ_of rfl) ka_NoneType q | exact cld_isiNoSeq (a := "bool") (tyQ_of rfl) ka_bool q | exact cld_isiNoSeq (a := "int") (tyQ_of rfl) ka_int q | exact cld_isiNoSeq (a := "str") (tyQ_of rfl) ka_str q
    | exact cld_isiSeq (.lst _) q | exact cld_isiSeq (.rl _) q | exact cld_isiSeq (.tup _) q | exact cld_isiNoSeq (a := "dict") (tyQ_of rfl) ka_dict q | cases h
end
end PD
/-! PD20: tests that are known. -/
namespace PD
theorem iteTr {b : Bool} {A B : Prop} (e : b = true) (h : A) : if b = true then A else B := by rw [if_pos e]; exact h
theorem iteFr {b : Bool} {A B : Prop} (e : b = false) (h : B) : if b = true then A else B := by subst e; exact h
open PySem PySem.Spec PyProof.Rows L2
theorem cutD_from {xs : List D} {r : Int} (h0 : 0 ≤ r) (h1 : r ≤ xs.length) : cutD xs (some r) none = xs.drop r.toNat := by
  unfold cutD HT.sIx
  simp only
  rw [if_neg (by omega), Nat.min_eq_left (by omega)]
  exact List.take_of_length_le (by rw [List.length_drop]; omega)
end PD
/-! PD21: classmethods, cls(..), try that never raises, split, index, comprehensions by place. -/
namespace PD
open PySem PySem.Spec PyProof.Rows L2 ClX
/-! ### a classmethod called on its class -/
section
variable {X : Cx} {b' : Bool} {k : Nat} {C p g : Addr} {mc : Value} {fd : FuncData} {ps : List Str} {sp : Sp} {dvs : List V} {dus : List Value} {E : L2.St → XK} {o e : Expr} {es : List Expr} {m : Str} {pos apos : Pos} {ta : TE} {t : TA} {pl : Sem Bool}
theorem run_cmS {pins : List (Addr × Obj)} {σ : L2.St} {H : Hp} {s : Shared} {q : Addr} {Q : VK} {us : List Value} {vs : List V} (F : FnOk X.prog X.w X.K X.mg X.base b' k g fd ps sp) (hr : Room k X.A) (hb : Binds X.K fd ps dus) (hd : Vals dvs dus) (hx : PassesAt (CXB b' X.prog X.w) X σ (E σ)) (I : Inv X ((q, PySem.W.methodObj (.ref g) (.ref C)) :: pins) σ H s)
    (r : Vals vs us) (h : sp (.ref C :: (vs ++ dvs)) H Q (E σ)) : wpAny (model X.prog X.w) X.A (call (.ref q) us) (EP X pins σ Q) X.xe s := by
  have z : wpAny (model X.prog X.w) X.A (call (.ref q) us) (EP X ((q, PySem.W.methodObj (.ref g) (.ref C)) :: pins) σ Q) X.xe s :=
    wpAny_call (PySem.W.method_call (pin_at I) (by
      have r1 : Vals (V.ref C :: vs) (Value.ref C :: us) := .cons rfl r
      have r2 : Vals (V.ref C :: vs ++ dvs) (Value.ref C :: us ++ dus) := r1.append hd
      have hl : (Value.ref C :: us ++ dus).length = ps.length := by rw [← r2.length]; exact F.len _ _ _ _ h
      refine codeAny_mono (F.run X.A X.stack s H ⟨Value.ref C :: us, []⟩ (Value.ref C :: us ++ dus) (V.ref C :: vs ++ dvs) Q (E σ) hr I.env0 (hb s (Value.ref C :: us) I.kIn hl) r2 h) fun r s' hq => ?_
      cases r with
      | error e => exact hx _ H s e s' I hq
      | ok fl =>
        cases fl with
        | ret u => exact I.after hq
        | next => exact False.elim hq
        | brk => exact False.elim hq
        | cont => exact False.elim hq))
  exact thn z fun _ _ y => unpinE y
theorem pe_cmethS (he : PE X o ta) (r : CRead X.K C mc) (c : CMet X.K C mc m p g) (F : FnOk X.prog X.w X.K X.mg X.base b' k g fd ps sp) (hr : Room k X.A) (hb : Binds X.K fd ps dus) (hd : Vals dvs dus) (hx : ∀ σ, PassesAt (CXB b' X.prog X.w) X σ (E σ)) (ha : PA X (e :: es) t)
    (hst : starEach (e :: es) X.env = (false, eval e X.env) :: starEach es X.env := by rfl) (hpl : (backTo pos (starEach es X.env)).any (·.1) = false := by rfl)
    (ht : eval (.Call (.Attribute o m apos) (e :: es) [] pos) X.env = (do
      let ov ← eval o X.env
      standAt apos.atName
      let (f, first) ← holding [ov] (getMethod ov m pl)
      callWith pos f first (backTo pos (starEach (e :: es) X.env)) (backToKw pos (keywordEach [] X.env))) := by rfl) :
    PE X (.Call (.Attribute o m apos) (e :: es) [] pos) (fun σ H Q => ta σ H fun x H1 => x = .ref C ∧ t σ H1 fun vs H2 => sp (.ref C :: (vs ++ dvs)) H2 Q (E σ)) := by
  refine ⟨fun pins s σ H Q I h => ?_⟩
  refine PySem.W.methodCall_KW (pl := pl) (thn (he.run pins s σ H _ I h) fun u s1 ⟨x, H1, I1, rx, ex, q⟩ => ?_) ht
  subst ex
  obtain rfl : u = Value.ref C := rx
  refine getmethcm_ok I1 r c fun s2 I2 => ?_
  refine callwith_cm I2 (base_none I1 (Nat.le_refl _)) c.fi (thn (ha.run pos _ s2 σ H1 _ I2 q) fun us s3 ⟨vs, H2, I3, rv, q2⟩ => ⟨⟨pin_at I3, I3.kIn⟩, ?_⟩) hst hpl
  exact run_cmS F hr hb hd (hx σ) I3 rv q2
end
/-- what a class and its classmethod must have -/
structure CmD (K : PySem.W.Frag) (C : Addr) (m : Str) (g : Addr) : Prop where
  ex : ∃ mc p, CRead K C mc ∧ CMet K C mc m p g
section
variable {Γ : Ct} {δ : Dl} {μ : Mu} {Q : D → Mu → Prop} {E : En} {pos : Pos} {k j n : Nat} {f C g : Addr} {sp : SpD} {dds : List D} {x m : Str} {p apos : Pos} {e o : Expr} {es : List Expr}
/-- C.m(e, ..) -/
theorem ed_cmC {pl : Sem Bool} (c : CmD Γ.X.K C m g) (Cd : CallX Γ.nn Γ.X.prog Γ.X.w Γ.X.K Γ.X.mg Γ.X.base k g n dds sp) (hr : Room j Γ.X.A) (hkj : k ≤ j)
    (h : ed Γ o δ μ fun x μ1 => x = .ref C ∧ ea Γ (e :: es) δ μ1 fun ds μ2 => (.ref C :: (ds ++ dds)).length = n ∧ sp (.ref C :: (ds ++ dds)) μ2 Q fun cls ns xs μ' => Γ.W cls ns xs δ μ')
    (hst : starEach (e :: es) Γ.X.env = (false, eval e Γ.X.env) :: starEach es Γ.X.env := by rfl) (hpl : (backTo pos (starEach es Γ.X.env)).any (·.1) = false := by rfl)
    (ht : eval (.Call (.Attribute o m apos) (e :: es) [] pos) Γ.X.env = (do
      let ov ← eval o Γ.X.env
      standAt apos.atName
      let (f, first) ← holding [ov] (getMethod ov m pl)
      callWith pos f first (backTo pos (starEach (e :: es) Γ.X.env)) (backToKw pos (keywordEach [] Γ.X.env))) := by rfl) : ed Γ (.Call (.Attribute o m apos) (e :: es) [] pos) δ μ Q := by
  obtain ⟨fd, ps, dvs, dus, hl, b, v, dd, G⟩ := Cd.ex
  obtain ⟨mc, pc, cr, cm⟩ := c.ex
  subst hl
  intro F σ H a
  exact we_of (pe_cmethS (E := fun σ cls dx H' => WofD Γ.X.K Γ.F0 Γ.μ0 Γ.H0 Γ.W cls dx σ H') pe_we cr cm G (hr.mono hkj) b v (fun σ => passAt Γ.tk σ) pa_wa hst hpl ht) (we_mono (h F σ H a) fun v' H1 ⟨F1, x, μ1, s1, a1, r1, ex, q1⟩ => by
    subst ex
    have ev : v' = .ref C := by rw [Dp] at r1; exact r1
    refine ⟨ev, wa_mono (q1 F1 σ H1 a1) fun vs H2 ⟨F2, ds, μ2, s2, a2, r2, hl, q⟩ => ?_⟩
    obtain ⟨F3, μ3, ds2, Qd, Ed, b1, b2, b3, b4, b5, b6⟩ := spOf_at (K := Γ.X.K) (n := ps.length) (sp := sp) rfl a2 (Dps.cons (dpr (a := C)) (r2.append (dd F2))) hl q
    exact ⟨F3, μ3, ds2, Qd, Ed, b1, b2, b3, b4, fun v H' F' μ' d c1 c2 c3 c4 => (b5 v H' F' μ' d c1 c2 c3 c4).up (s1.trans s2), b6⟩)
end
/-! ### a local name that holds a class, called -/
section
variable {X : Cx} {b' : Bool} {k i : Nat} {C f : Addr} {fd : FuncData} {ps : List Str} {sp : Sp} {dvs : List V} {dus : List Value} {x : Str} {p pos : Pos} {e : Expr} {es : List Expr}
theorem pe_makeL {Eσ : L2.St → XK} {t : TA} (M : Mk X.K C f) (G : FnOk X.prog X.w X.K X.mg X.base b' k f fd ps sp) (hr : Room (k + 1) X.A) (hN : X.N[i]? = some x) (hv : Vis X.env.scope x) (hb : Binds X.K fd ps dus) (hd : Vals dvs dus) (hx : ∀ σ, PassesAt (CXB b' X.prog X.w) X σ (Eσ σ))
    (ha : PA X (e :: es) t) (hdb : (x == ("__debug__" : Str)) = false) (hcd : (x == ("__classdict__" : Str)) = false) (he : starEach (e :: es) X.env = (false, eval e X.env) :: starEach es X.env) (hpl : (backTo pos (starEach es X.env)).any (·.1) = false) :
    PE X (.Call (.Name x p) (e :: es) [] pos) (fun σ H Q => σ[i]? = some (some (.ref C)) ∧ t σ H fun vs H1 => ∀ a dx, H1 a = none → H1 dx = none → dx ≠ a → sp (.ref a :: (vs ++ dvs)) (upd (upd H1 dx (.own a)) a (.ins C dx [])) (fun v H2 => v = .non ∧ Q (.ref a) H2) (Eσ σ)) where
  run := fun pins s σ H Q I h => by
    obtain ⟨hs, ht⟩ := h
    refine wpAny_Call_Name_kw (thn ((pe_var (pos := p) hN hv hdb hcd).run pins s σ H (fun v H1 => v = .ref C ∧ H1 = H) I ⟨.ref C, hs, rfl, rfl⟩) fun u s1 ⟨v, H1, I1, r1, q1⟩ => ?_)
    obtain ⟨rfl, rfl⟩ := q1
    cases r1
    exact PySem.W.callWith_K (h₀ := X.base) I.ok.mod.kin M.kp (thn (ha.run pos pins s1 σ _ _ I1 ht) fun us s2 ⟨vs, H2, I2, r, q⟩ => ⟨I2.kIn, run_makeS M G hr hb hd (hx σ) I2 r q⟩) he hpl
end
section
variable {Γ : Ct} {δ : Dl} {μ : Mu} {Q : D → Mu → Prop} {pos : Pos} {k j n i : Nat} {f C : Addr} {sp : SpD} {dds : List D} {x : Str} {p apos : Pos} {e : Expr} {es : List Expr} {N : List Str} {sc : Scope}
theorem ed_makeL (nm : Nm N sc i x) (hδ : δ[i]? = some (some (.ref C))) (Md : MakeD Γ.X.prog Γ.X.w Γ.X.K Γ.X.mg Γ.X.base k C n dds sp) (hr : Room j Γ.X.A) (hkj : k + 1 ≤ j) (h : ea Γ (e :: es) δ μ fun ds μ1 => (ds ++ dds).length = n ∧ sp (ds ++ dds) μ1 Q fun cls ns xs μ' => Γ.W cls ns xs δ μ')
    (esc : Γ.X.env.scope = sc := by rfl) (e2 : Γ.X.N = N := by rfl) (he : starEach (e :: es) Γ.X.env = (false, eval e Γ.X.env) :: starEach es Γ.X.env := by rfl) (hpl : (backTo pos (starEach es Γ.X.env)).any (·.1) = false := by rfl) :
    ed Γ (.Call (.Name x p) (e :: es) [] pos) δ μ Q := by
  obtain ⟨f, spI, M, Cd, hI⟩ := Md.ex
  obtain ⟨fd, ps, dvs, dus, hl, b, v, dd, G⟩ := (Cd.at_ Γ.nn).ex
  intro F σ H a
  refine we_of (pe_makeL (i := i) (Eσ := fun σ cls dx H' => WofD Γ.X.K Γ.F0 Γ.μ0 Γ.H0 Γ.W cls dx σ H') M G (hr.mono hkj) (by rw [e2]; exact nm.at_) (nm.vis esc) b v (fun σ => passAt Γ.tk σ) pa_wa nm.dbg nm.cls he hpl) ?_
  obtain ⟨v0, hv0, rv0⟩ := a.var hδ
  refine ⟨by rw [hv0]; rw [Dp] at rv0; rw [rv0], wa_mono (h F σ H a) fun vs H1 ⟨F1, ds, μ1, s1, a1, r1, hn, q⟩ q' dx hq hdx hne => ?_⟩
  have a2 : At Γ F1 δ ((q', Cell.ins C dx [] []) :: μ1) σ (upd (upd H1 dx (.own q')) q' (.ins C dx [])) := (a1.ext (same_upd hdx)).own (by rw [upd_ne (Ne.symm hne)]; exact hq) ⟨[], upd_same, rfl, Dps.nil⟩
  have r2 : Dps Γ.X.K F1 (.ref q' :: (ds ++ dds)) (.ref q' :: (vs ++ dvs)) := Dps.cons dpr (r1.append (dd F1))
  refine ⟨F1, _, _, Frz Q q' C dx, _, a2.sx, r2, by rw [hl, List.length_cons, hn], hI _ _ _ _ q q' dx, fun v H' F' μ' d st sx rd z => ?_, fun cls dx' H' F' μ' ns xs st sx xo z => ⟨F', μ', δ, ns, xs, a2.st.trans st, sx, a2.fr.mono st.ext, xo, z⟩⟩
  obtain ⟨rfl, z⟩ := z
  exact ⟨by rw [Dp] at rd; exact rd, PostE.frz rfl ⟨F', μ', s1.trans st.ext, ⟨a2.st.trans st, sx, a2.fr.mono st.ext⟩, z⟩⟩
end
/-! ### try .. except X: whose body raises nothing -/
/-! ### methods of texts and lists of texts -/
section
variable {Γ : Ct} {δ : Dl} {μ : Mu} {Q : D → Mu → Prop}
theorem mtd_split {x z : Str} (hz : (z.length == 0) = false) (hl : x.length + 2 ≤ sizeLine) (q : Q (.lst ((Txt.split x z).map .str)) μ) : mtd Γ "str.split" (.str x) [.str z] δ μ Q := mtd_of mt_split fun F σ H vx vs a r1 r2 => by
  obtain ⟨v, ws, rfl, h2, h3⟩ := r2.uncons
  rw [h3.unnil]
  rw [Dp] at r1 h2
  subst r1 h2
  exact ⟨x, z, rfl, rfl, hz, hl, fun p hp => PostE.new a hp (dpl upd_same Dps.of_strs) q⟩
end
/-! ### a comprehension by place -/
section
variable {Γ : Ct} {elt tg iter : Expr} {ifs : List Expr} {scope : Scope} {vs : List Nat} {δ : Dl} {μ : Mu} {Q : List D → Mu → Prop}
theorem lcd_ix (W : Mu → Prop) (out : List D) (h : eid Γ tg iter δ μ fun ds S μ1 => ds.length ≤ 1000000 ∧ out.length = ds.length ∧ W μ1 ∧ (∀ μ', W μ' → S μ') ∧
      (∀ (i : Nat) (d r : D) (μ' : Mu), (ds : List D)[i]? = some d → out[i]? = some r → W μ' → allB Γ scope fun Γb => gv Γb tg d vs (wipeD δ vs) μ' fun δ2 μ2 => allB Γ scope fun Γc => eif Γc ifs δ2 μ2 fun b μ3 => b = true ∧ allB Γ scope fun Γd => ed Γd elt δ2 μ3 fun x μ4 => x = r ∧ W μ4) ∧
      ∀ μ', W μ' → Q out μ') : lcd Γ elt tg iter ifs scope vs δ μ Q := fun F σ H a => wi_mono (h F σ H a) fun J H1 ⟨F1, ds, S, μ1, s1, a1, ok, hz, ho, hW, hS, hb, hq⟩ => by
  refine ⟨F1, ds, S, μ1, s1, a1, ok, hz, fun i acc μ' => acc = out.take i ∧ W μ', ⟨rfl, hW⟩, fun i acc μ' _ z => ⟨hS μ' z.2, by rw [z.1]; exact List.length_take_le _ _⟩, ?_, fun acc μ' z => by
    obtain ⟨rfl, z2⟩ := z
    rw [← ho, List.take_length]; exact hq μ' z2⟩
  rintro i d acc μ' hd ⟨rfl, z3⟩
  have hi : i < out.length := by rw [ho]; exact (List.getElem?_eq_some_iff.mp hd).1
  have hr : out[i]? = some out[i] := List.getElem?_eq_getElem hi
  intro s H C cl fp F0 μ0 H0 F2 σ2 H2 v a2 r2
  refine wg_mono (hb i d _ μ' hd hr z3 s H C cl fp F0 μ0 H0 F2 σ2 H2 v a2 r2) fun σ3 H3 ⟨w3, F3, δ3, μ3, s3, a3, q3⟩ => ⟨w3, F3, δ3, μ3, s3, a3, ?_⟩
  intro s' H' C' cl' fp' F0' μ0' H0'
  have key : ∀ {b : Bool} {μ4 : Mu}, (b = true ∧ allB Γ scope fun Γd => ed Γd elt δ3 μ4 fun x μ5 => x = out[i] ∧ W μ5) →
      if b = true then allB Γ scope fun Γd => ed Γd elt δ3 μ4 fun r μ5 => out.take i ++ [r] = out.take (i + 1) ∧ W μ5 else out.take i = out.take (i + 1) ∧ W μ4 := by
    rintro b μ4 ⟨rfl, z⟩
    intro s2 H2' C2 cl2 fp2 F02 μ02 H02 F5 σ5 H5 a5
    refine we_mono (z s2 H2' C2 cl2 fp2 F02 μ02 H02 F5 σ5 H5 a5) fun v' H6 ⟨F6, r, μ6, s6, a6, r6, q1, q2⟩ => ⟨F6, r, μ6, s6, a6, r6, ?_, q2⟩
    rw [q1, List.take_succ, hr]; rfl
  have q4 := q3 s' H' C' cl' fp' F0' μ0' H0'
  match ifs, q4 with
  | [], q4 => exact key (b := true) (μ4 := μ3) q4
  | [c], q4 => exact fun F5 σ5 H5 a5 => wt_mono (q4 F5 σ5 H5 a5) fun b H6 ⟨F6, μ6, s6, a6, q6⟩ => ⟨F6, μ6, s6, a6, key q6⟩
end
end PD
/-! PD22: what the top has written, with defs behind classmethods and properties. -/
namespace PD
open PySem PySem.Spec PyProof.Rows L2
/-- the def behind a property -/
def pf (K : PySem.W.Frag) (C : Addr) (m : Str) : Addr := match PySem.W.recIn K (He.ma K C m) "property" with
  | some (.ref f :: _) => f
  | _ => 0
structure TXP (fa : List He.Fa) (fn : List He.DefD) (fx : List He5.DefA) (ts : List He.Tab) (ex : PySem.W.Frag → Bool) (w : World) (K : PySem.W.Frag) (mg : Str → Option Value) : Prop extends TXW fa fn ts ex w K mg where
  dx : ∀ (i : Nat) (d : He5.DefA), fx[i]? = some d → ∃ fd, FunD K d.name d.qual d.params d.body d.scope (d.dvs K) (d.kws K) (d.at_ K) fd
  cs : ∀ (i : Nat) (x z : Str), fa[i]? = some (He.Fa.str x z) → ∃ t, mg x = some (.str z t)
  ci : ∀ (i : Nat) (x : Str) (z : Int), fa[i]? = some (He.Fa.int x z) → ∃ t, mg x = some (.int z t)
abbrev AlP : Type := (He.AlT × Bool) × List He5.FnW
def asP (g : Addr → Option Obj) (n : Nat) : List Addr := He.asD g n ++ [cStatics]
def sayP (fa : List He.Fa) (fn : List He.DefD) (fx : List He5.DefA) (ts : List He.Tab) (ex : PySem.W.Frag → Bool) (K : PySem.W.Frag) : AlP := ((He.obsT fa fn ts K, ex K && fx.all fun d => d.ok K), fx.map fun d => He5.fnA K (d.at_ K))
def obsP (n : Nat) (fa : List He.Fa) (fn : List He.DefD) (fx : List He5.DefA) (ts : List He.Tab) (ex : PySem.W.Frag → Bool) (g : Addr → Option Obj) : AlP := sayP fa fn fx ts ex (He.frT g (asP g n))
def valP (fn : List He.DefD) (fx : List He5.DefA) (ts : List He.Tab) (w : World) : AlP := ((He.valT fn ts w, true), fx.map He5.DefA.val)
def hookP (n : Nat) (fa : List He.Fa) (fn : List He.DefD) (fx : List He5.DefA) (ts : List He.Tab) (ex : PySem.W.Frag → Bool) : PySem.W.Hook where
  α := AlP
  obs := fun s => obsP n fa fn fx ts ex s.heap.get?
  val := fun w => valP fn fx ts w
  says := fun w h => ∃ K : PySem.W.Frag, K.In h ∧ sayP fa fn fx ts ex K = valP fn fx ts w
  of := fun _ _ e => ⟨_, He.frT_in, e⟩
  keeps := fun _ _ _ ⟨K, hK, c⟩ k => ⟨K, PySem.W.Frag.In.keeps hK k, c⟩
theorem obsP_eq {n : Nat} {fa : List He.Fa} {fn : List He.DefD} {fx : List He5.DefA} {ts : List He.Tab} {ex : PySem.W.Frag → Bool} {g : Addr → Option Obj} {s : Shared} (h : ∀ a, g a = s.heap.get? a) : obsP n fa fn fx ts ex g = (hookP n fa fn fx ts ex).obs s := by
  have e : g = s.heap.get? := funext h
  rw [e] <;> rfl
theorem txp_of {fa : List He.Fa} {fn : List He.DefD} {fx : List He5.DefA} {ts : List He.Tab} {ex : PySem.W.Frag → Bool} {w : World} {K : PySem.W.Frag} {mg : Str → Option Value} {h : Heap} (X : K.In h) (G : h.Ns mainGlobals mg) (c : sayP fa fn fx ts ex K = valP fn fx ts w) : TXP fa fn fx ts ex w K mg := by
  have e1 : He.SaysT fa fn ts w K := congrArg (fun z : AlP => z.1.1) c
  have e2 : (ex K && fx.all fun d => d.ok K) = true := congrArg (fun z : AlP => z.1.2) c
  have e3 : (fx.map fun d => He5.fnA K (d.at_ K)) = fx.map He5.DefA.val := congrArg (fun z : AlP => z.2) c
  obtain ⟨e4, e5⟩ := Bool.and_eq_true_iff.mp e2
  have S : He.SaysX fa fn ts [] ex w h K := ⟨e1, e4, fun p hp => (List.not_mem_nil hp).elim, fun p hp => (List.not_mem_nil hp).elim, fun p hp => (List.not_mem_nil hp).elim⟩
  refine ⟨txw_of X G S, fun i d hi => ?_, fun i x z hi => He.str_ok X G (S.t.d.facts (List.mem_of_getElem? hi)), fun i x z hi => He.int_ok X G (S.t.d.facts (List.mem_of_getElem? hi))⟩
  have e6 : (fx.map fun d => He5.fnA K (d.at_ K))[i]? = (fx.map He5.DefA.val)[i]? := by rw [e3]
  rw [List.getElem?_map, List.getElem?_map, hi] at e6
  exact He5.DefA.funD (Option.some.inj e6) (List.all_eq_true.mp e5 d (List.mem_of_getElem? hi))
theorem cread_of' {K : PySem.W.Frag} {C : Addr} (h : PySem.W.readsIn K C (.type "type") = true) : ClX.CRead K C (.type "type") := by
  refine ⟨h, ?_⟩
  unfold PySem.W.readsIn at h
  obtain ⟨h, _⟩ := Bool.and_eq_true_iff.mp h
  obtain ⟨h, _⟩ := Bool.and_eq_true_iff.mp h
  obtain ⟨h, h3⟩ := Bool.and_eq_true_iff.mp h
  obtain ⟨_, h2⟩ := Bool.and_eq_true_iff.mp h
  unfold PySem.W.specialIn
  rw [beq_iff_eq.mp h2, Option.bind_some]
  exact beq_iff_eq.mp h3
/-- a class and its classmethod, as a Bool -/
def cmB (K : PySem.W.Frag) (C : Addr) (m : Str) : Bool := PySem.W.readsIn K C (.type "type") && (He5.wrapB K C "classmethod" "classmethod.__get__" m && PySem.W.fnIn K (He5.wf K C "classmethod" m))
theorem cmB_ok {K : PySem.W.Frag} {C : Addr} {m : Str} (h : cmB K C m = true) : CmD K C m (He5.wf K C "classmethod" m) := by
  obtain ⟨h1, h⟩ := Bool.and_eq_true_iff.mp h
  obtain ⟨h2, h3⟩ := Bool.and_eq_true_iff.mp h
  exact ⟨_, _, cread_of' h1, He5.cmet_of h2 h3⟩
/-- a class and its property, as a Bool -/
def prB (K : PySem.W.Frag) (C : Addr) (m : Str) : Bool := He.eqO (PySem.W.findIn K (.ref C) m) (some (some (.ref (He.ma K C m)))) && (He.eqO (PySem.W.specialIn K (.ref (He.ma K C m)) "__get__") (some (some (.builtin "property.__get__"))) && (decide (PySem.W.takesIn K (.ref (He.ma K C m)) = some true) && (match PySem.W.recIn K (He.ma K C m) "property" with
    | some (.ref _ :: _) => true
    | _ => false)))
theorem prB_ok {K : PySem.W.Frag} {C : Addr} {m : Str} (h : prB K C m = true) : PropOf K C m (He.ma K C m) (pf K C m) := by
  obtain ⟨h1, h⟩ := Bool.and_eq_true_iff.mp h
  obtain ⟨h2, h⟩ := Bool.and_eq_true_iff.mp h
  obtain ⟨h3, h4⟩ := Bool.and_eq_true_iff.mp h
  refine ⟨He.eqO_ok h1, He.eqO_ok h2, of_decide_eq_true h3, ?_⟩
  unfold pf
  split at h4
  · rename_i f r e
    exact ⟨r, by rw [e]⟩
  · cases h4
/-- a def at any address, called -/
theorem CallD.mk1 {P : Program} {w : World} {K : PySem.W.Frag} {mg : Str → Option Value} {base : Heap} {k : Nat} {f : Addr} {sp : SpD} {x qual : Str} {params : Arguments} {body : List Stmt} {scope : Scope} {kws : List (Str × V)} {fd : FuncData} {ps : List Str} (F : FunD K x qual params body scope [] kws f fd)
    (h : ∀ (kV doc pm : Value) (an : Option Addr) (cdv ct : Value) (us : List Value), us.length = ps.length → bindArgs (PySem.W.fnOf x qual params body scope .none kV doc pm an cdv ct) ⟨us, []⟩ = pure (ps.zip us)) (G : ∀ {b : Bool}, FnD b P w K mg base k f fd ps sp) : CallD P w K mg base k f ps.length [] sp := CallD.mk0 F h G
theorem atI_zero {α : Type} {x : α} {xs : List α} : atI (x :: xs) 0 = some x := atI_nat (j := 0) rfl
/-! ### cells given up, many at once -/
theorem At.dropL {Γ : Ct} {δ : Dl} {σ : L2.St} {H : Hp} {μb : Mu} : ∀ (μa : Mu) {F : Hp}, At Γ F δ (μa ++ μb) σ H → ∃ F', Same F F' ∧ At Γ F' δ μb σ H
  | [], F, a => ⟨F, Same.refl F, a⟩
  | (p, c) :: μa, F, a => by
    obtain ⟨o, ho⟩ := cell_some (a.sx.cells (p, c) List.mem_cons_self)
    have sF : Same F (upd F p o) := same_upd (a.sx.off (p, c) List.mem_cons_self)
    have a2 : At Γ (upd F p o) δ (μa ++ μb) σ H := At.freeze (μ1 := []) a ho
    obtain ⟨F', s, a3⟩ := At.dropL μa a2
    exact ⟨F', sF.trans s, a3⟩
theorem ed_dropL {Γ : Ct} {e : Expr} {δ : Dl} {μ : Mu} {Q : D → Mu → Prop} (h : ed Γ e δ μ fun d μ' => ∃ μa μb, μ' = μa ++ μb ∧ Q d μb) : ed Γ e δ μ Q := fun F σ H a => by
  refine we_mono (h F σ H a) fun v H' ⟨F', d, μ', s', a', r, μa, μb, e, q⟩ => ?_
  subst e
  obtain ⟨F2, s2, a2⟩ := At.dropL μa a'
  exact ⟨F2, d, μb, s'.trans s2, a2, r.mono s2, q⟩
end PD
/-! PD23: enumerate over a tuple; texts walked; numbers in texts; texts and numbers of the top. -/
namespace PySem
open Sem (wp)
set_option maxHeartbeats 1000000 in
theorem meets_enumerate_newT (v : Value) (o : Obj) (H : Heap → Prop) (B : Begins v o H) :
    Meets (Builtin.«enumerate.__new__» ⟨[.type "enumerate", v], []⟩) (fun _ R s => H s.heap ∧
      R (.ok (.ret (.ref (s.heap.push o).objs.size))) { s with heap := (s.heap.push o).push { cls := .type "enumerate", data := .fields #[.none, .bool false, .ref s.heap.objs.size, rawInt 0, .none, .none] } }) :=
  .of_wp fun prog w A R s h => by
    obtain ⟨hp, g, d, tk, os⟩ := s; obtain ⟨h1, h⟩ := h
    have hsub := sub_enumerate
    have q1 : ∀ {A' : Around} {E : Value → Shared → Prop} {Q : Value → Shared → Prop}, Q (.ref hp.objs.size) ⟨hp.push o, g, d, tk, os⟩ → wpAny (model prog w) A' (pyIter v) Q E ⟨hp, g, d, tk, os⟩ :=
      fun q => B.iter prog w _ _ ⟨hp, g, d, tk, os⟩ _ h1 q
    wp_walk using q1
    refine wpAny_stack_any fun st => wpAny_pure ?_
    split
    · rename_i c _ _ _ _ _
      cases (c == Value.type "enumerate")
      · wp_walk using q1
        exact ⟨_, rfl, h⟩
      · wp_walk using q1
        exact ⟨_, rfl, h⟩
    · wp_walk using q1
      exact ⟨_, rfl, h⟩
theorem call_enumerate_tuple {prog : Program} {w : World} {A : Around} {E : Value → Shared → Prop} {s : Shared} {a : Addr} {items : Array Value} {Q : Value → Shared → Prop} (hT : s.heap.IsTuple a items)
    (h : ∀ h', IsEnum h' (s.heap.objs.size + 1) s.heap.objs.size 0 .none → h'.IsTupleIter s.heap.objs.size a 0 → h'.objs.size = s.heap.objs.size + 2 →
      (∀ b o, s.heap.get? b = some o → h'.get? b = some o) → Q (.ref (s.heap.objs.size + 1)) { s with heap := h' }) :
    wpAny (model prog w) A (call (.type "enumerate") [.ref a]) Q E s := by
  refine callType_new F.called_enumerate (by decide) (F.typeCall_enumerate_1 _) (F.newCall_enumerate_1 _) (fun obj => F.args_object_init_2 obj _) F.entry_enumerate_new
    (meets_enumerate_newT _ _ _ (begins_tuple a items)) ⟨hT, ?_⟩
  have hz : (s.heap.push { cls := .type "tuple_iterator", data := .fields #[.ref a, .int 0 0] }).objs.size = s.heap.objs.size + 1 := Heap.size_push ..
  show _ ∧ _
  rw [hz]
  have he : IsEnum ((s.heap.push { cls := .type "tuple_iterator", data := .fields #[.ref a, .int 0 0] }).push { cls := .type "enumerate", data := .fields #[.none, .bool false, .ref s.heap.objs.size, rawInt 0, .none, .none] }) (s.heap.objs.size + 1) s.heap.objs.size 0 .none := by
    have := Heap.get?_push_size (s.heap.push { cls := .type "tuple_iterator", data := .fields #[.ref a, .int 0 0] }) (o := { cls := .type "enumerate", data := .fields #[.none, .bool false, .ref s.heap.objs.size, rawInt 0, .none, .none] }) rfl
    rw [hz] at this; exact this
  refine ⟨⟨_, he, rfl⟩, h _ he ⟨_, Heap.get?_push_of_some _ (Heap.get?_push_size _ rfl), rfl, rfl⟩ (by rw [Heap.size_push, hz]) fun b o x => Heap.get?_push_of_some _ (Heap.get?_push_of_some _ x)⟩
theorem wpAny_pyNext_enumT_end {prog : Program} {w : World} {A : Around} {E : Value → Shared → Prop} {s : Shared} {e it t : Addr} {j : Nat} {items : Array Value} {i : Int} {old : Value} {Q : Option Value → Shared → Prop} (hh : A.handled = none)
    (he : IsEnum s.heap e it i old) (hit : s.heap.IsTupleIter it t j) (ht : s.heap.IsTuple t items) (hj : items.size ≤ j)
    (hQ : ∀ h', Heap.ExtBut it s.heap h' → Q none { s with heap := h' }) : wpAny (model prog w) A (pyNext (.ref e)) Q E s := by
  have hT : s.TypeIs (.ref e) "enumerate" := ⟨_, he, rfl⟩
  unfold pyNext
  refine wpAny_bind (wpAny_attempt (wpAny_callSpecial?_slot (name := Str.ofString "__next__") hT F.slot_enumerate_next
    (wpAny_call_entry F.slot_enumerate_next hT F.entry_enumerate_next ?_ (F.args_enumerate_next_1 _))))
  show wpAny _ _ (field (.ref e) 2 >>= _) _ _ _
  refine wpAny_bind (wpAny_field he rfl (x := .ref it) rfl ?_)
  refine wpAny_bind (wpAny_nextOf_tuple_end (show A.in1.handled = none from hh) hit ht (by simpa using hj) fun h' x he' hx' => ?_)
  obtain ⟨o, ho, hc⟩ := hx'
  refine wpAny_bind (wpAny_isInstance (T := "StopIteration") (b := true) ⟨o, ho, hc⟩ isSubtype_stop ?_)
  exact wpAny_pure (hQ _ he')
end PySem
namespace PD
open PySem PySem.Spec PyProof.Rows L2
/-- the tuple at a, each item in a new pair -/
def Itet (K : PySem.W.Frag) (a : Addr) : It :=
  ⟨fun i H => ∃ (xs : List V) (x : V), SqT K H a xs ∧ xs[i]? = some x, fun i H v H' => ∃ T x, v = .ref T ∧ H T = none ∧ H' = upd H T (.tup [.int (i : Nat), x]) ∧ ∀ xs, SqT K H a xs → xs[i]? = some x, fun i H => ∃ xs : List V, SqT K H a xs ∧ xs.length ≤ i⟩
theorem turn_enumT {P : Program} {w : World} {K : PySem.W.Frag} {elts : List Expr} {kk : Nat} {tpos : Pos} (a e it : Addr) :
    Turn P w K (.Tuple elts kk tpos) (Itet K a) [e, it] e (fun i h => (∃ old, IsEnum h e it ((i : Nat) : Int) old) ∧ h.IsTupleIter it a i ∧ e ≠ it ∧ a ≠ it ∧ a ≠ e) where
  mem := by simp
  obj := fun i h st b hb => by
    obtain ⟨⟨old, he⟩, ⟨o, ho, hc, hd⟩, _⟩ := st
    have e' : b = e ∨ b = it := by simpa using hb
    rcases e' with z | z
    · rw [z]; exact ⟨_, he, fun v q => nomatch q⟩
    · rw [z]; exact ⟨o, ho, fun v q => by rw [hd] at q; cases q⟩
  keep := fun i h h' st k => let ⟨⟨old, he⟩, hi, hne⟩ := st; ⟨⟨old, k e (by simp) _ he⟩, hi.at fun o q => k it (by simp) o q, hne⟩
  item := by
    intro X hP hw hK hc i pins s σ H E I hf st hg
    subst hP hw hK
    obtain ⟨⟨old, he⟩, hit, hne, hai, hae⟩ := st
    obtain ⟨xs, x, hq, hx⟩ := hg
    obtain ⟨its, rv, p, hz⟩ := I.tuple hq
    obtain ⟨u, hu, ru⟩ := rv.get hx
    have p' : s.heap.IsTuple a its.toArray := p
    have hel : e < s.heap.objs.size := Heap.lt_size he
    have hil : it < s.heap.objs.size := by obtain ⟨_, q, _⟩ := hit; exact Heap.lt_size q
    have hlt : i < its.toArray.size := by
      have := (List.getElem?_eq_some_iff.mp hu).1
      simpa using this
    have D := Draws.tuple (prog := X.prog) (w := X.w) (A := X.A.in1) (show X.A.in1.handled = none from I.ok.hd hc) it a hai its.toArray
    refine wpAny_pyNext_enum_itemD D he ⟨hit, p'⟩ hlt hne (by simp [hne, Ne.symm hae]) fun u' h' tk hu' ho hst' hT hsz hk => ?_
    have eu : u' = u := by
      have h1 : its[i]? = some u' := by simpa using hu'
      rw [hu] at h1; exact (Option.some.inj h1).symm
    subst eu
    obtain ⟨hit', _⟩ := hst'
    refine ⟨_, rfl, wpAny_letOwnedTupleGo_enum (s := { s with heap := h', toks := tk + 1 }) ho fun h'' he' sb => ?_⟩
    have hT2 : h''.get? s.heap.objs.size = some { cls := .type "tuple", data := .seq #[.int i tk, u'] } := (sb.2 _ (Nat.ne_of_gt hel)).trans hT
    have new : ObjOk X.prog X.w (upd H s.heap.objs.size (.tup [.int (i : Nat), x])) h'' s.heap.objs.size (.tup [.int (i : Nat), x]) :=
      ⟨by show 2 ≤ sizeLine; decide, [.int i tk, u'], .cons ⟨_, rfl⟩ (.cons ru .nil), ⟨_, hT2, rfl, _, rfl⟩⟩
    have I1 : Inv X pins σ (upd H s.heap.objs.size (.tup [.int (i : Nat), x])) { s with heap := h'', toks := tk + 1 } :=
      I.turnedNew (ch := [e, it]) (fun b ob hb q => (sb.2 b (fun z => hb (by simp [z]))).trans (hk b ob (fun z => hb (by simp [z])) (fun z => hb (by simp [z])) q)) hf (Nat.le_refl _) new
    refine ⟨.ref s.heap.objs.size, _, I1, rfl, ⟨_, x, rfl, I.hok.fresh (Nat.le_refl _), rfl, fun ys hy => by rw [I.tuple_inj hy hq]; exact hx⟩, ⟨⟨u', ?_⟩, hit'.at fun o q => (sb.2 it (Ne.symm hne)).trans q, hne, hai, hae⟩, fun b hb => ?_⟩
    · have e1 : ((i + 1 : Nat) : Int) = (i : Int) + 1 := by omega
      rw [e1]; exact he'
    · have hb' : b < s.heap.objs.size := by
        have e' : b = e ∨ b = it := by simpa using hb
        rcases e' with z | z
        · rw [z]; exact hel
        · rw [z]; exact hil
      rw [upd_ne (Nat.ne_of_lt hb')]
      exact (hf b hb).1
  done := by
    intro X hP hw hK hc i pins s σ H E I hf st hg
    subst hP hw hK
    obtain ⟨⟨old, he⟩, hit, hne, hai, hae⟩ := st
    obtain ⟨xs, hq, hx⟩ := hg
    obtain ⟨its, rv, p, hz⟩ := I.tuple hq
    have p' : s.heap.IsTuple a its.toArray := p
    obtain ⟨f0, f1, f2, f3, f4, f5⟩ := hf it (by simp)
    have hl := rv.length
    exact wpAny_pyNext_enumT_end (I.ok.hd hc) he hit p' (by simp; omega) fun h' eb => ⟨rfl, I.turned (t' := s.toks) (fun b o hb q => eb b o hb q) f0 f1 f3 f4 f5⟩
  self := fun A i s Q E st h => let ⟨⟨_, he⟩, _⟩ := st; wpAny_pyIter_enum he h
theorem itOk_enumT {K : PySem.W.Frag} {F : Hp} {a : Addr} {ds : List D} {S : Mu → Prop} (base : ItOk K (Itt K a) ds S F) : ItOk K (Itet K a) (enumD ds) S F where
  go := fun Γ hK i F2 δ μ σ H s a2 hS d hd => by
    obtain ⟨e, he, rfl⟩ := enumD_get hd
    obtain ⟨⟨xs, x, h1, h2⟩, g⟩ := base.go Γ hK i F2 δ μ σ H s a2 hS e he
    refine ⟨⟨xs, x, h1, h2⟩, fun v H' y => ?_⟩
    obtain ⟨T, x', rfl, hT, rfl, y⟩ := y
    obtain ⟨F3, s3, a3, r3⟩ := g x' H ⟨rfl, y⟩
    have sF := same_upd (o := HO.tup [.int (i : Nat), x']) (a3.sx.sub.free hT)
    exact ⟨upd F3 T (.tup [.int (i : Nat), x']), s3.trans sF, a3.pers _ hT, dpt (.inl (.inl upd_same)) (Dps.cons dpi (Dps.cons (r3.mono sF) Dps.nil))⟩
  stop := fun Γ hK i F2 δ μ σ H s a2 hS hi => base.stop Γ hK i F2 δ μ σ H s a2 hS (by rw [enumD_len] at hi; exact hi)
/-- enumerate over a list or a tuple -/
def iEnumC (K : PySem.W.Frag) (ta : TA) : TI := fun σ H R => ta σ H fun vs H1 => (∃ a xs, vs = [.ref a] ∧ SqL K H1 a xs ∧ R (Ite K a) H1) ∨ ∃ a xs, vs = [.ref a] ∧ SqT K H1 a xs ∧ R (Itet K a) H1
theorem pi_enumC {X : Cx} {e : Expr} {ta : TA} {p pos tpos : Pos} {elts : List Expr} {kk : Nat} (hg : Gl X "enumerate") (hm : X.mg "enumerate" = none) (ha : PA X [e] ta) (hs : starEach [e] X.env = [(false, eval e X.env)] := by rfl) :
    PI X (.Tuple elts kk tpos) (.Call (.Name "enumerate" p) [e] [] pos) (iEnumC X.K ta) := by
  refine ⟨fun pins s σ H R I h => ?_⟩
  refine Call_ (ld_blt I hg hm boot_enumerate (PyProof.Rows.callWith_type1 (thn (ha.run pos pins s σ H _ I h) fun us s1 ⟨vs, H1, I1, r1, q1⟩ => ?_) hs rfl))
  rcases q1 with ⟨a, xs, ex, hq, q⟩ | ⟨a, xs, ex, hq, q⟩
  · subst ex
    cases r1 with
    | cons r rr =>
      cases rr
      cases r
      obtain ⟨its, rv, p', hz⟩ := I1.list hq
      refine call_enumerate_list p'.isList fun h' he hit hsz hk => wpAny_pyIter_enum he ?_
      have I2 : Inv X pins σ H1 { s1 with heap := h' } := I1.kept (t' := s1.toks) hk
      refine ⟨s1.heap.objs.size + 1, [s1.heap.objs.size + 1, s1.heap.objs.size], _, _, H1, rfl, I2, turn_enum a (s1.heap.objs.size + 1) s1.heap.objs.size, ⟨⟨.none, he⟩, hit, Nat.succ_ne_self _⟩, fun b hb => ?_, q⟩
      have e' : b = s1.heap.objs.size + 1 ∨ b = s1.heap.objs.size := by simpa using hb
      have hle : s1.heap.objs.size ≤ b := by
        rcases e' with z | z
        · rw [z]; exact Nat.le_add_right _ _
        · rw [z]; exact Nat.le_refl _
      exact I1.fpOk hle (I1.hok.fresh hle)
  · subst ex
    cases r1 with
    | cons r rr =>
      cases rr
      cases r
      obtain ⟨its, rv, p', hz⟩ := I1.tuple hq
      have p2 : s1.heap.IsTuple a its.toArray := p'
      have hal : a < s1.heap.objs.size := by obtain ⟨_, z, _⟩ := p2; exact Heap.lt_size z
      refine call_enumerate_tuple p2 fun h' he hit hsz hk => wpAny_pyIter_enum he ?_
      have I2 : Inv X pins σ H1 { s1 with heap := h' } := I1.kept (t' := s1.toks) hk
      refine ⟨s1.heap.objs.size + 1, [s1.heap.objs.size + 1, s1.heap.objs.size], _, _, H1, rfl, I2, turn_enumT a (s1.heap.objs.size + 1) s1.heap.objs.size, ⟨⟨.none, he⟩, hit, Nat.succ_ne_self _, Nat.ne_of_lt hal, Nat.ne_of_lt (Nat.lt_succ_of_lt hal)⟩, fun b hb => ?_, q⟩
      have e' : b = s1.heap.objs.size + 1 ∨ b = s1.heap.objs.size := by simpa using hb
      have hle : s1.heap.objs.size ≤ b := by
        rcases e' with z | z
        · rw [z]; exact Nat.le_add_right _ _
        · rw [z]; exact Nat.le_refl _
      exact I1.fpOk hle (I1.hok.fresh hle)
section
variable {Γ : Ct} {δ : Dl} {μ : Mu} {R : List D → (Mu → Prop) → Mu → Prop} {pos : Pos}
theorem eid_enumS {e : Expr} {p pos tpos : Pos} {elts : List Expr} {kk : Nat} (hm : Γ.X.mg "enumerate" = none)
    (h : ea Γ [e] δ μ fun ds μ1 => ∃ x xs, ds = [x] ∧ SeqD μ1 x xs ∧ R (enumD xs) (fun μ' => SeqD μ' x xs) μ1)
    (hg : Gl Γ.X "enumerate" := by rfl) (hs : starEach [e] Γ.X.env = [(false, eval e Γ.X.env)] := by rfl) : eid Γ (.Tuple elts kk tpos) (.Call (.Name "enumerate" p) [e] [] pos) δ μ R := fun F σ H a =>
  wi_of (pi_enumC hg hm pa_wa hs) (wa_mono (h F σ H a) fun vs H1 ⟨F1, ds, μ1, s1, a1, r1, x, xs, e1, hx, q⟩ => by
    subst e1
    obtain ⟨v, rfl, r2⟩ := r1.one
    cases hx with
    | lst =>
      obtain ⟨p, ws, rfl, h1, h2⟩ := dpL r2
      have b := itOk_enum (itOk_list h1 h2)
      exact .inl ⟨p, ws, rfl, .inl (.inl (a1.sx.sub _ _ h1)), F1, _, _, μ1, s1, a1, ⟨fun Γ hK i F δ μ σ H s a _ d hd => b.go Γ hK i F δ μ σ H s a trivial d hd, fun Γ hK i F δ μ σ H s a _ hi => b.stop Γ hK i F δ μ σ H s a trivial hi⟩, q⟩
    | rl =>
      obtain ⟨p, ws, rfl, h1, h2⟩ := dpRl r2
      have b := itOk_enum (itOk_rl h1 h2)
      exact .inl ⟨p, ws, rfl, a1.sx.sub.seq h1, F1, _, _, μ1, s1, a1, ⟨fun Γ hK i F δ μ σ H s a _ d hd => b.go Γ hK i F δ μ σ H s a trivial d hd, fun Γ hK i F δ μ σ H s a _ hi => b.stop Γ hK i F δ μ σ H s a trivial hi⟩, q⟩
    | tup =>
      obtain ⟨p, ws, rfl, h1, h2⟩ := dpT r2
      have b := itOk_enumT (itOk_tup h1 h2)
      exact .inr ⟨p, ws, rfl, Same.sqT a1.sx.sub h1, F1, _, _, μ1, s1, a1, ⟨fun Γ hK i F δ μ σ H s a _ d hd => b.go Γ hK i F δ μ σ H s a trivial d hd, fun Γ hK i F δ μ σ H s a _ hi => b.stop Γ hK i F δ μ σ H s a trivial hi⟩, q⟩
    | own hmem =>
      rename_i pp
      rw [dpR r2]
      obtain ⟨ws, h1, h2⟩ := a1.sx.cells _ hmem
      have b := itOk_enum (itOk_own (K := Γ.X.K) (F := F1) (a := pp) (ds := xs))
      refine .inl ⟨pp, ws, rfl, .inl (.inl h1), F1, _, _, μ1, s1, a1, ⟨fun Γ hK i F δ μ σ H s a hS d hd => b.go Γ hK i F δ μ σ H s a ?_ d hd, fun Γ hK i F δ μ σ H s a hS hi => b.stop Γ hK i F δ μ σ H s a ?_ hi⟩, q⟩
      · cases hS with | own h => exact h
      · cases hS with | own h => exact h)
/-! ### a text's signs -/
def signsD (x : Str) : List D := x.cps.toList.map fun c => .str ⟨#[c]⟩
theorem itOk_str {K : PySem.W.Frag} {F : Hp} {x : Str} : ItOk K (Its x) (signsD x) (fun _ => True) F where
  go := fun Γ hK i F2 δ μ σ H s a2 _ d hd => by
    unfold signsD at hd
    rw [List.getElem?_map] at hd
    cases e : x.cps.toList[i]? with
    | none => rw [e] at hd; cases hd
    | some c =>
      rw [e] at hd
      cases hd
      have hc : x.cps[i]? = some c := by simpa using e
      refine ⟨(Array.getElem?_eq_some_iff.mp hc).1, fun v H' y => ?_⟩
      obtain ⟨rfl, c', hc', rfl⟩ := y
      rw [hc] at hc'
      cases hc'
      exact ⟨F2, Same.refl _, a2, by rw [Dp]⟩
  stop := fun Γ hK i F2 δ μ σ H s a2 _ hi => by
    unfold signsD at hi
    rw [List.length_map] at hi
    show x.cps.size ≤ i
    simpa using hi
theorem itf_str {X : Cx} {tg : Expr} {x : Str} {H : Hp} {R : It → Hp → Prop} (q : R (Its x) H) : itf X tg (.str x) H R := fun pins s σ v I1 r1 => by
  obtain ⟨t, rfl⟩ := r1
  cases ha : x.cps.all (· < 128)
  · exact wpAny_pyIter_wide ha (pi_one (tk := s.toks) I1 _ (turn_str _ x t "str_iterator" (.inr rfl)) ⟨_, Heap.get?_push_size _ rfl, rfl, rfl⟩ q)
  · exact wpAny_pyIter_ascii ha (pi_one (tk := s.toks) I1 _ (turn_str _ x t "str_ascii_iterator" (.inl rfl)) ⟨_, Heap.get?_push_size _ rfl, rfl, rfl⟩ q)
theorem itd_str {tg : Expr} {x : Str} (q : R (signsD x) (fun _ => True) μ) : itd Γ tg (.str x) δ μ R := fun F σ H v a r => by
  rw [Dp] at r
  subst r
  exact itf_str ⟨F, _, _, μ, Same.refl F, a, itOk_str, q⟩
end
section
variable {Γ : Ct} {δ : Dl} {μ : Mu} {Q : D → Mu → Prop}
theorem opd_inSign {c : Nat} {z : Str} (q : Q (.bl (decide (c ∈ z.cps.toList))) μ) : opd Γ (compareOp .In) (.str ⟨#[c]⟩) (.str z) δ μ Q := opd_of op_in_sign fun F σ H vx vy a r1 r2 => by
  rw [Dp] at r1 r2
  subst r1 r2
  exact ⟨c, z, rfl, rfl, PostE.here a dpb q⟩
theorem ixd_str {z : Str} {i : Int} {c : Nat} (hz : z.length ≤ sizeLine) (h : atI z.cps.toList i = some c) (q : Q (.str ⟨#[c]⟩) μ) : ixd Γ (.str z) (.int i) δ μ Q := ixd_of ix_str fun F σ H vx vy a r1 r2 => by
  simp only [Dp] at r1 r2
  subst r1 r2
  exact ⟨z, i, c, rfl, rfl, hz, h, PostE.here a (by rw [Dp]) q⟩
theorem cld_intS {x : Str} {n : Int} (h : PySem.intText? x = some n) (hl : x.length ≤ 640) (q : Q (.int n) μ) : cld Γ (.type "int") [.str x] δ μ Q := cld_of call_int_str fun F σ H vs a r0 => by
  obtain ⟨v, rfl, r⟩ := r0.one
  rw [Dp] at r
  subst r
  exact ⟨x, n, rfl, h, hl, PostE.here a dpi q⟩
theorem cld_strI {i : Int} (h : i.natAbs.log2 < 1920) (q : Q (.str (Str.ofString (toString i))) μ) : cld Γ (.type "str") [.int i] δ μ Q := cld_of call_str_int fun F σ H vs a r0 => by
  obtain ⟨v, rfl, r⟩ := r0.one
  rw [Dp] at r
  subst r
  exact ⟨i, rfl, h, PostE.here a (by rw [Dp]) q⟩
theorem cld_strS {x : Str} (q : Q (.str x) μ) : cld Γ (.type "str") [.str x] δ μ Q := cld_of SkE.call_str_str fun F σ H vs a r0 => by
  obtain ⟨v, rfl, r⟩ := r0.one
  rw [Dp] at r
  subst r
  exact ⟨x, rfl, PostE.here a (by rw [Dp]) q⟩
/-- texts and numbers of the top -/
theorem ed_gstr {x z : Str} {pos : Pos} (hm : ∃ t, Γ.X.mg x = some (.str z t)) (q : Q (.str z) μ) (hg : Gl Γ.X x := by rfl) (hd : (x == ("__debug__" : Str)) = false := by decide +kernel) : ed Γ (.Name x pos) δ μ Q := by
  obtain ⟨t, hm⟩ := hm
  exact ed_glob hm (v := .str z) ⟨t, rfl⟩ (fun _ => by rw [Dp]) q hg hd
theorem ed_gint {x : Str} {i : Int} {pos : Pos} (hm : ∃ t, Γ.X.mg x = some (.int i t)) (q : Q (.int i) μ) (hg : Gl Γ.X x := by rfl) (hd : (x == ("__debug__" : Str)) = false := by decide +kernel) : ed Γ (.Name x pos) δ μ Q := by
  obtain ⟨t, hm⟩ := hm
  exact ed_glob hm (v := .int i) ⟨t, rfl⟩ (fun _ => by rw [Dp]) q hg hd
end
section
variable {Γ : Ct} {δ : Dl} {μ : Mu} {a b c : Expr} {pos : Pos}
/-- a < b < c as a test -/
theorem et_chain {op op' : CmpOp} {Q : Bool → Mu → Prop} (h : ed Γ a δ μ fun x μ1 => ed Γ b δ μ1 fun y μ2 => opd Γ (compareOp op) x y δ μ2 fun d μ3 => ∃ k, d = .bl k ∧ if k = true then ed Γ c δ μ3 fun z μ4 => opd Γ (compareOp op') y z δ μ4 (fun d μ5 => ∃ k, d = .bl k ∧ Q k μ5) else Q false μ3)
    (hm : lastMarks [op, op'] [b, c] = false := by with_unfolding_all rfl) : et Γ (.Compare a [op, op'] [b, c] pos) δ μ Q := fun F σ H at_ => by
  refine wt_of (pt_chain rwf_ok rwf_ok pe_we pe_we pe_we hm) ?_
  refine we_mono (h F σ H at_) fun x H1 ⟨F1, d1, μ1, s1, h1, r1, q1⟩ => ?_
  refine we_mono (q1 F1 σ H1 h1) fun y H2 ⟨F2, d2, μ2, s2, h2, r2, q2⟩ => ?_
  refine rwf_mono (q2 F2 σ H2 x y h2 (r1.mono s2) r2) fun v H3 ⟨F3, d3, μ3, s3, h3, r3, k, e3, q3⟩ => ?_
  subst e3
  rw [Dp] at r3
  refine ⟨k, r3, ?_⟩
  cases k with
  | true =>
    rw [if_pos rfl] at q3 ⊢
    refine we_mono (q3 F3 σ H3 h3) fun z H4 ⟨F4, d4, μ4, s4, h4, r4, q4⟩ => ?_
    refine rwf_mono (q4 F4 σ H4 y z h4 ((r2.mono s3).mono s4) r4) fun v5 H5 ⟨F5, d5, μ5, s5, h5, r5, k5, e5, q5⟩ => ?_
    subst e5
    rw [Dp] at r5
    exact ⟨k5, r5, F5, μ5, (((s1.trans s2).trans s3).trans s4).trans s5, h5, q5⟩
  | false =>
    rw [if_neg Bool.false_ne_true] at q3 ⊢
    exact ⟨false, rfl, F3, μ3, (s1.trans s2).trans s3, h3, q3⟩
end
end PD
/-! PD24: C() -/
namespace PD
open PySem PySem.Spec PyProof.Rows L2
section
variable {X : Cx} {b' : Bool} {k : Nat} {C f : Addr} {fd : FuncData} {ps : List Str} {sp : Sp} {dvs : List V} {dus : List Value} {x : Str} {p pos : Pos}
theorem pe_makeS0 {Eσ : L2.St → XK} (M : Mk X.K C f) (G : FnOk X.prog X.w X.K X.mg X.base b' k f fd ps sp) (hr : Room (k + 1) X.A) (hg : Gl X x) (hm : X.mg x = some (.ref C)) (hb : Binds X.K fd ps dus) (hd : Vals dvs dus) (hx : ∀ σ, PassesAt (CXB b' X.prog X.w) X σ (Eσ σ)) (hdb : (x == ("__debug__" : Str)) = false) :
    PE X (.Call (.Name x p) [] [] pos) (fun σ H1 Q => ∀ a dx, H1 a = none → H1 dx = none → dx ≠ a → sp (.ref a :: ([] ++ dvs)) (upd (upd H1 dx (.own a)) a (.ins C dx [])) (fun v H2 => v = .non ∧ Q (.ref a) H2) (Eσ σ)) where
  run := fun pins s σ H Q I h => wpAny_Call_Name_kw (ld_glob I hg hm (PySem.W.callWith_K0 I.kIn M.kp (run_makeS (us := []) (vs := []) M G hr hb hd (hx σ) I .nil h)) hdb)
end
section
variable {Γ : Ct} {δ : Dl} {μ : Mu} {Q : D → Mu → Prop} {pos : Pos} {k j n : Nat} {f C : Addr} {sp : SpD} {dds : List D} {x : Str} {p : Pos}
theorem ed_makeC0 (Md : MakeD Γ.X.prog Γ.X.w Γ.X.K Γ.X.mg Γ.X.base k C n dds sp) (hr : Room j Γ.X.A) (hkj : k + 1 ≤ j) (hm : Γ.X.mg x = some (.ref C)) (h : dds.length = n ∧ sp dds μ Q fun cls ns xs μ' => Γ.W cls ns xs δ μ') (hg : Gl Γ.X x := by rfl)
    (hdb : (x == ("__debug__" : Str)) = false := by decide +kernel) :
    ed Γ (.Call (.Name x p) [] [] pos) δ μ Q := by
  obtain ⟨f, spI, M, Cd, hI⟩ := Md.ex
  obtain ⟨fd, ps, dvs, dus, hl, b, v, dd, G⟩ := (Cd.at_ Γ.nn).ex
  obtain ⟨hn, q⟩ := h
  intro F σ H a
  refine we_of (pe_makeS0 (Eσ := fun σ cls dx H' => WofD Γ.X.K Γ.F0 Γ.μ0 Γ.H0 Γ.W cls dx σ H') M G (hr.mono hkj) hg hm b v (fun σ => passAt Γ.tk σ) hdb) fun q' dx hq hdx hne => ?_
  have a2 : At Γ F δ ((q', Cell.ins C dx [] []) :: μ) σ (upd (upd H dx (.own q')) q' (.ins C dx [])) := (a.ext (same_upd hdx)).own (by rw [upd_ne (Ne.symm hne)]; exact hq) ⟨[], upd_same, rfl, Dps.nil⟩
  have r2 : Dps Γ.X.K F (.ref q' :: dds) (.ref q' :: ([] ++ dvs)) := Dps.cons dpr (dd F)
  refine ⟨F, _, _, Frz Q q' C dx, _, a2.sx, r2, by rw [hl, List.length_cons, hn], hI _ _ _ _ q q' dx, fun v H' F' μ' d st sx rd z => ?_, fun cls dx' H' F' μ' ns xs st sx xo z => ⟨F', μ', δ, ns, xs, a2.st.trans st, sx, a2.fr.mono st.ext, xo, z⟩⟩
  obtain ⟨rfl, z⟩ := z
  exact ⟨by rw [Dp] at rd; exact rd, PostE.frz rfl ⟨F', μ', st.ext, ⟨a2.st.trans st, sx, a2.fr.mono st.ext⟩, z⟩⟩
end
end PD
/-! PD25: own + and *, in place; own order; tuple * int. -/
namespace PD
open PySem PySem.Spec PyProof.Rows L2
/-- what own operators need of the class: `x nm y` by f -/
structure BinOwn (K : PySem.W.Frag) (C f : Addr) (nm : String) : Prop where
  at_ : PySem.W.findIn K (.ref C) (PySem.dunder nm) = some (some (.ref f))
  fn : PySem.W.isFn K (.ref f) = true
  mro : PySem.W.selfFirst K C = true
section
variable {prog : Program} {w : World} {A : Around} {E : Value → Shared → Prop} {s : Shared} {K : PySem.W.Frag} {x C f g : Addr} {ox : Obj} {od : Option Obj} {nm : String} {b : Value}
theorem mro_of (hc : PySem.W.selfFirst K C = true) : ∃ cd rest, PySem.W.clsIn K C = some cd ∧ cd.mro = .ref C :: rest := by
  obtain ⟨cd, hcd, hm⟩ := PySem.W.any_some hc
  cases q : cd.mro with
  | nil => rw [q] at hm; cases hm
  | cons a r => rw [q] at hm; rw [List.head?_cons] at hm; cases (beq_iff_eq.mp hm); exact ⟨cd, r, hcd, q⟩
theorem try_own {Q : Option Value → Shared → Prop} (X : K.In s.heap) (I : PySem.W.InstAt s.heap x ox C od) (B : BinOwn K C f nm) (h : wpAny (model prog w) A (call (.ref f) [.ref x, b]) (PySem.W.CmpBack fun v s' => Q (some v) s') E s) : wpAny (model prog w) A (tryMethod (.ref x) (PySem.dunder nm) b) Q E s := by
  unfold tryMethod
  refine wpAny_bind (PySem.W.special_fn X I B.at_ (beq_iff_eq.mp B.fn) (wpAny_mono h (fun v s' hv => ?_) fun _ _ e => e))
  cases v <;> first | exact hv.elim | exact wpAny_pure hv
/-- two of one class -/
theorem bin1_same {Q : Option Value → Shared → Prop} (X : K.In s.heap) (I : PySem.W.InstAt s.heap x ox C od) (hb : PySem.W.Looks (model prog w) s.heap (typeOf b) (.ref C)) (B : BinOwn K C f nm)
    (h : wpAny (model prog w) A (call (.ref f) [.ref x, b]) (PySem.W.CmpBack fun v s' => Q (some v) s') E s) : wpAny (model prog w) A (binaryOp1 nm (.ref x) b) Q E s := by
  obtain ⟨cd, rest, hcd, hm⟩ := mro_of B.mro
  unfold binaryOp1
  refine wpAny_bind (I.type.here (wpAny_bind (hb.here (wpAny_bind ((PySem.W.fills_K X hcd hm B.at_).here ?_)))))
  simp only [beq_self_eq_true, if_true]
  refine wpAny_bind (wpAny_pure ?_)
  simp only [Bool.and_false, Bool.false_eq_true, if_false, Bool.false_and]
  refine wpAny_bind (wpAny_pure ?_)
  simp only [Bool.false_eq_true, if_false]
  refine wpAny_bind (m := tryMethod (.ref x) _ b) ?_
  exact try_own X I B (wpAny_mono h (fun v s' hv => by cases v <;> first | exact hv.elim | exact wpAny_pure hv) fun _ _ e => e)
/-- own op int -/
theorem bin1_left {T : String} {rb : Option Value} {Q : Option Value → Shared → Prop} (X : K.In s.heap) (I : PySem.W.InstAt s.heap x ox C od) (hb : PySem.W.Looks (model prog w) s.heap (typeOf b) (.type T)) (B : BinOwn K C f nm) (BR : PySem.W.findIn K (.ref C) (PySem.dunderR nm) = some (some (.ref g)))
    (fT : fillsNumberSlot (.type T) nm = pure true) (sT : PySem.W.subIn K (.type T) (.ref C) = some false) (rT : PySem.W.findIn K (.type T) (PySem.dunderR nm) = some rb)
    (h : wpAny (model prog w) A (call (.ref f) [.ref x, b]) (PySem.W.CmpBack fun v s' => Q (some v) s') E s) : wpAny (model prog w) A (binaryOp1 nm (.ref x) b) Q E s := by
  obtain ⟨cd, rest, hcd, hm⟩ := mro_of B.mro
  have e0 : ((Value.ref C) == (Value.type T)) = false := rfl
  unfold binaryOp1
  refine wpAny_bind (I.type.here (wpAny_bind (hb.here (wpAny_bind ((PySem.W.fills_K X hcd hm B.at_).here ?_)))))
  simp only [e0, Bool.false_eq_true, if_false]
  refine wpAny_bind (wpAny_of_eq fT ?_)
  simp only [Bool.and_self, if_true]
  refine wpAny_bind ((PySem.W.looks_subIn X sT).here ?_)
  simp only [Bool.false_eq_true, if_false, Bool.not_false, Bool.and_self, if_true]
  refine wpAny_bind (m := numberSlotInPython (.ref C) nm) ?_
  unfold numberSlotInPython
  refine wpAny_bind ((PySem.W.looks_findIn X B.at_).here ?_)
  refine wpAny_bind (m := calledByName _ _ _) (wpAny_pure ?_)
  refine wpAny_bind ((PySem.W.looks_findIn X BR).here ?_)
  refine wpAny_bind (m := calledByName _ _ _) (wpAny_pure ?_)
  simp only [Bool.or_self, if_true]
  refine wpAny_pure ?_
  simp only [if_true]
  refine wpAny_bind (m := pure false) (wpAny_pure ?_)
  simp only [Bool.not_false, if_true]
  refine wpAny_bind ((PySem.W.looks_findIn X rT).here ?_)
  refine wpAny_bind (m := tryMethod (.ref x) _ b) ?_
  exact try_own X I B (wpAny_mono h (fun v s' hv => by cases v <;> first | exact hv.elim | exact wpAny_pure hv) fun _ _ e => e)
theorem bin_of {op : Operator} {a : Value} {Q : Value → Shared → Prop} (h : wpAny (model prog w) A (binaryOp1 op.info.2 a b) (fun r s' => ∃ v, r = some v ∧ Q v s') E s) : wpAny (model prog w) A (binaryOp op a b) Q E s := by
  unfold binaryOp
  refine wpAny_holding (wpAny_bind (wpAny_mono h (fun r s' z => ?_) fun _ _ e => e))
  obtain ⟨v, rfl, q⟩ := z
  exact wpAny_pure q
end
/-! ### the rules -/
section
variable {Γ : Ct} {δ : Dl} {μ : Mu} {Q : D → Mu → Prop} {k j n : Nat} {f g C : Addr} {sp : SpD} {dds : List D} {x y : D} {op : Operator}
theorem own_here (hx : InsC C x μ) {F H : Hp} {σ σ' : L2.St} {vx : V} {v : Value} {pins : List (Addr × Obj)} {s : Shared} (a : At Γ F δ μ σ H) (r1 : Dp Γ.X.K F x vx) (I : Inv Γ.X pins σ' H s) (q1 : RelV vx v) :
    ∃ p dx od, v = .ref p ∧ vx = .ref p ∧ s.heap.get? p = some (PySem.W.instObj C dx) ∧ PySem.W.InstAt s.heap p (PySem.W.instObj C dx) C (some od) := by
  obtain ⟨p, dx, gs, rfl, h1⟩ := insC_run a hx r1
  obtain rfl : v = Value.ref p := q1
  obtain ⟨mA, O, _⟩ := ins_get I.hok h1
  obtain ⟨od, J, _⟩ := O.look
  exact ⟨p, dx, od, rfl, rfl, O.obj, J⟩
/-- the callee's answer as the operator's -/
theorem back_op {F : Hp} {σ σ' : L2.St} {pins : List (Addr × Obj)} {A : Around} {s : Shared} {us : List Value} (z : wpAny (model Γ.X.prog Γ.X.w) A (call (.ref f) us) (EP Γ.X pins σ' (PostE Γ F δ σ Q)) Γ.X.xe s) :
    wpAny (model Γ.X.prog Γ.X.w) A (call (.ref f) us) (PySem.W.CmpBack fun v s' => ∃ v', some v = some v' ∧ EP Γ.X pins σ' (PostE Γ F δ σ Q) v' s') Γ.X.xe s :=
  wpAny_mono z (fun w s' z => by
    obtain ⟨z', H', I', rz, q⟩ := z
    exact SlX.cmpback rz ⟨_, rfl, z', H', I', rz, q⟩) fun _ _ x => x
theorem bin_own_same (B : BinOwn Γ.X.K C f op.info.2) (hx : InsC C x μ) (hy : InsC C y μ) (Cd : CallD Γ.X.prog Γ.X.w Γ.X.K Γ.X.mg Γ.X.base k f 2 [] sp) (hr : Room j Γ.X.A) (hkj : k ≤ j)
    (h : sp [x, y] μ Q fun _ _ _ _ => False) {F H : Hp} {σ : L2.St} {vx vy : V} (a : At Γ F δ μ σ H) (r1 : Dp Γ.X.K F x vx) (r2 : Dp Γ.X.K F y vy) (pins : List (Addr × Obj)) (s : Shared) (σ' : L2.St) (v u : Value) (I : Inv Γ.X pins σ' H s) (q1 : RelV vx v) (q2 : RelV vy u) :
    wpAny (model Γ.X.prog Γ.X.w) Γ.X.A (binaryOp1 op.info.2 v u) (fun r s' => ∃ v', r = some v' ∧ EP Γ.X pins σ' (PostE Γ F δ σ Q) v' s') Γ.X.xe s := by
  obtain ⟨p, dx, od, rfl, rfl, _, J⟩ := own_here hx a r1 I q1
  obtain ⟨p2, dx2, od2, rfl, rfl, _, J2⟩ := own_here hy a r2 I q2
  exact bin1_same I.kIn J J2.type B (back_op (cd_deep Cd (hr.mono hkj) I.env0 I a (ds := [x, y]) (us := [Value.ref p, Value.ref p2]) (Dps.cons r1 (Dps.cons r2 Dps.nil)) (.cons rfl (.cons rfl .nil)) rfl h))
theorem opd_ownOwn (B : BinOwn Γ.X.K C f op.info.2) (hx : InsC C x μ) (hy : InsC C y μ) (Cd : CallD Γ.X.prog Γ.X.w Γ.X.K Γ.X.mg Γ.X.base k f 2 [] sp) (hr : Room j Γ.X.A) (hkj : k ≤ j)
    (h : sp [x, y] μ Q fun _ _ _ _ => False) : opd Γ (binaryOp op) x y δ μ Q := fun F σ H vx vy a r1 r2 pins s σ' v u I q1 q2 => bin_of (bin_own_same B hx hy Cd hr hkj h a r1 r2 pins s σ' v u I q1 q2)
/-- own op int -/
structure BinInt (K : PySem.W.Frag) (C f g : Addr) (nm : String) : Prop where
  l : BinOwn K C f nm
  rat : PySem.W.findIn K (.ref C) (PySem.dunderR nm) = some (some (.ref g))
  rfn : PySem.W.isFn K (.ref g) = true
  sT : PySem.W.subIn K (.type "int") (.ref C) = some false
  sR : PySem.W.mroIn K C (.type "int") = some false
theorem rT_mul (K : PySem.W.Frag) : PySem.W.findIn K (.type "int") (PySem.dunderR "mul") = some (some (.builtin "int.__rmul__")) := by
  show PySem.fastLookup _ _ = _
  kernel_rfl
theorem bin_own_int {i : Int} (B : BinInt Γ.X.K C f g "mul") (hx : InsC C x μ) (Cd : CallD Γ.X.prog Γ.X.w Γ.X.K Γ.X.mg Γ.X.base k f 2 [] sp) (hr : Room j Γ.X.A) (hkj : k ≤ j)
    (h : sp [x, .int i] μ Q fun _ _ _ _ => False) {F H : Hp} {σ : L2.St} {vx vy : V} (a : At Γ F δ μ σ H) (r1 : Dp Γ.X.K F x vx) (r2 : Dp Γ.X.K F (.int i) vy) (pins : List (Addr × Obj)) (s : Shared) (σ' : L2.St) (v u : Value) (I : Inv Γ.X pins σ' H s) (q1 : RelV vx v) (q2 : RelV vy u) :
    wpAny (model Γ.X.prog Γ.X.w) Γ.X.A (binaryOp1 "mul" v u) (fun r s' => ∃ v', r = some v' ∧ EP Γ.X pins σ' (PostE Γ F δ σ Q) v' s') Γ.X.xe s := by
  obtain ⟨p, dx, od, rfl, rfl, _, J⟩ := own_here hx a r1 I q1
  have e := dpI r2
  subst e
  have r2' : Dps Γ.X.K F [.int i] [.int i] := Dps.cons r2 Dps.nil
  obtain ⟨t, rfl⟩ := (show ∃ t, u = Value.int i t from q2)
  exact bin1_left (T := "int") I.kIn J (PySem.W.Looks.of_pure rfl) B.l B.rat PySem.F.fills_int_mul B.sT (rT_mul _) (back_op (cd_deep Cd (hr.mono hkj) I.env0 I a (ds := [x, .int i]) (us := [Value.ref p, Value.int i t]) (Dps.cons r1 r2') (.cons rfl (.cons ⟨t, rfl⟩ .nil)) rfl h))
theorem opd_ownInt {i : Int} (B : BinInt Γ.X.K C f g "mul") (hx : InsC C x μ) (Cd : CallD Γ.X.prog Γ.X.w Γ.X.K Γ.X.mg Γ.X.base k f 2 [] sp) (hr : Room j Γ.X.A) (hkj : k ≤ j)
    (h : sp [x, .int i] μ Q fun _ _ _ _ => False) : opd Γ (binaryOp .Mult) x (.int i) δ μ Q := fun F σ H vx vy a r1 r2 pins s σ' v u I q1 q2 => bin_of (bin_own_int B hx Cd hr hkj h a r1 r2 pins s σ' v u I q1 q2)
/-- own order -/
theorem opd_ordOwn {op : CmpOp} {t : Value} (hop : ∀ a b, compareOp op a b = richCompare op a b) (at_ : PySem.W.findIn Γ.X.K (.ref C) (cmpInfo op).2.1 = some (some (.ref f))) (fn : PySem.W.isFn Γ.X.K (.ref f) = true) (hx : InsC C x μ) (hy : TyQ Γ.X.K μ y t) (hn : PySem.W.notFirst Γ.X.K C t = true)
    (Cd : CallD Γ.X.prog Γ.X.w Γ.X.K Γ.X.mg Γ.X.base k f 2 [] sp) (hr : Room j Γ.X.A) (hkj : k ≤ j) (hu : Γ.X.A.units < cLine)
    (h : sp [x, y] μ Q fun _ _ _ _ => False) : opd Γ (compareOp op) x y δ μ Q := fun F σ H vx vy a r1 r2 pins s σ' v u I q1 q2 => by
  obtain ⟨p, dx, od, rfl, rfl, _, J⟩ := own_here hx a r1 I q1
  obtain ⟨m, hF⟩ := I.fr
  have z := cd_deep Cd (hr.mono hkj) I.env0 I a (ds := [x, y]) (us := [Value.ref p, u]) (Dps.cons r1 (Dps.cons r2 Dps.nil)) (.cons rfl (.cons q2 .nil)) rfl h
  rw [hop]
  refine PySem.W.cmp_K (op := op) hu hF I.ok.mod.kin J (typeOf_run I a hy r2 q2 _) hn at_ fn (wpAny_mono z (fun w s' z => ?_) fun _ _ x => x)
  obtain ⟨z', H', I', rz, q⟩ := z
  exact SlX.cmpback rz ⟨_, H', I', rz, q⟩
/-! ### name op= e -/
end
end PD
/-! PD26: tuple * int, any tuple and number. -/
namespace PD
open PySem PySem.Spec PyProof.Rows L2
theorem tuple_mulS (l : Addr) (items : Array Value) (n : Nat) (dd : Option Addr) (sl : Array (Option Value)) (x : Int) (u : Tok) (c0 : (decide (x < -(2 ^ 63)) || decide (x ≥ 2 ^ 63)) = false) (c1 : (items.isEmpty || x == 1) = true) :
    Meets (Builtin.«tuple.__mul__» ⟨[.ref l, .int x u], []⟩) (fun _ R s => s.heap.get? l = some { cls := .type "tuple", dict := dd, data := .seq items n, slots := sl } ∧ R (.ok (.ret (Value.ref l))) s) :=
  .of_wp fun prog w A R s h => by
    obtain ⟨hp, g, d, tk, os⟩ := s
    obtain ⟨hl, h⟩ := h
    have f1 := AutoSeq1.idx_int
    wp_walk using wpAny_loadPart' hl
    repeat (first
      | (refine wpAny_ite_false (decide_eq_false (by rw [c0]; exact Bool.false_ne_true)) ?_; wp_walk using wpAny_loadPart' hl)
      | (refine wpAny_ite_true (decide_eq_true (by rw [c1])) ?_; wp_walk using wpAny_loadPart' hl))
    exact ⟨_, rfl, h⟩
theorem tuple_mulE (l : Addr) (items : Array Value) (n : Nat) (dd : Option Addr) (sl : Array (Option Value)) (x : Int) (u : Tok) (c0 : (decide (x < -(2 ^ 63)) || decide (x ≥ 2 ^ 63)) = false) (c1 : (items.isEmpty || x == 1) = false) (c2 : (decide (x ≤ 0) || items.isEmpty) = true) :
    Meets (Builtin.«tuple.__mul__» ⟨[.ref l, .int x u], []⟩) (fun _ R s => s.heap.get? l = some { cls := .type "tuple", dict := dd, data := .seq items n, slots := sl } ∧
      R (.ok (.ret (Value.ref s.heap.objs.size))) { s with heap := s.heap.push { cls := Value.type "tuple", data := Data.seq #[] }, toks := s.toks }) :=
  .of_wp fun prog w A R s h => by
    obtain ⟨hp, g, d, tk, os⟩ := s
    obtain ⟨hl, h⟩ := h
    have f1 := AutoSeq1.idx_int
    wp_walk using wpAny_loadPart' hl
    repeat (first
      | (refine wpAny_ite_false (decide_eq_false (by rw [c0]; exact Bool.false_ne_true)) ?_; wp_walk using wpAny_loadPart' hl)
      | (refine wpAny_ite_false (decide_eq_false (by rw [c1]; exact Bool.false_ne_true)) ?_; wp_walk using wpAny_loadPart' hl)
      | (refine wpAny_ite_true (decide_eq_true (by rw [c2])) ?_; wp_walk using wpAny_loadPart' hl))
    exact ⟨_, rfl, h⟩
/-- any tuple, number from -10 to 1000 -/
def rRepA (K : PySem.W.Frag) : R2 := fun x y H Q => ∃ l k xs, x = .ref l ∧ y = .int k ∧ SqT K H l xs ∧ -1000 ≤ k ∧ k ≤ 1000 ∧ xs.length ≤ 1000 ∧ ((xs = [] ∨ k = 1) → Q (.ref l) H) ∧ (xs ≠ [] → k ≠ 1 → ∀ p, H p = none → Q (.ref p) (upd H p (.tup (List.replicate k.toNat xs).flatten)))
theorem op_repA {X : Cx} : OpR X (binaryOp .Mult) (rRepA X.K) := by
  intro pins s σ H x y v u Q I rx ry h
  obtain ⟨l, k, xs, rfl, rfl, hT, h1, h2, hz, qs, qn⟩ := h
  by_cases hg : xs ≠ [] ∧ 2 ≤ k
  · exact op_repT pins s σ H _ _ v u Q I rx ry ⟨l, k, xs, rfl, rfl, hT, hg.1, hg.2, h2, hz, qn hg.1 (by omega)⟩
  obtain rfl : v = Value.ref l := rx
  obtain ⟨t, rfl⟩ := ry
  obtain ⟨its, r, ⟨⟨cls, dd, data, sl⟩, ho, hc, n, hd⟩, hs⟩ := I.tuple hT
  simp only at hc hd
  subst hc hd
  have hle : its.length = xs.length := r.length.symm
  have c0 : (decide (k < -(2 ^ 63)) || decide (k ≥ 2 ^ 63)) = false := by
    rw [decide_eq_false (by omega), decide_eq_false (by omega)] <;> rfl
  have road : ∀ {Q' : Value → Shared → Prop}, wpAny (model X.prog X.w) X.A (call (.builtin "tuple.__mul__") [.ref l, .int k t]) Q' X.xe s → wpAny (model X.prog X.w) X.A (binaryOp .Mult (.ref l) (.int k t)) Q' X.xe s := fun z =>
    wpAny_binaryOp_repeat_ref (T := "tuple") (U := "int") (by decide) ⟨_, ho, rfl⟩ (fun s' => typeIs_int s' k t) noFill_tuple_mul PySem.F.fills_int_mul PySem.F.slot_int_rmul repeat_tuple PySem.F.slot_int_index.lookup
      (call_meets PySem.F.slot_int_rmul (typeIs_int s k t) PySem.F.entry_int_rmul (PySem.F.args_int_rmul_2 _ _) (int_rmul_tuple k t l its.toArray n dd sl)
        ⟨ho, rfl, ⟨_, ho, rfl⟩, z⟩)
  refine road ?_
  by_cases hs1 : xs = [] ∨ k = 1
  · have c1 : (its.toArray.isEmpty || k == 1) = true := by
      rcases hs1 with e | e
      · subst e
        have : its = [] := List.length_eq_zero_iff.mp hle
        subst this; rfl
      · subst e; simp
    exact call_meets PySem.F.slot_tuple_mul ⟨_, ho, rfl⟩ PySem.F.entry_tuple_mul (PySem.F.args_tuple_mul_2 _ _) (tuple_mulS l its.toArray n dd sl k t c0 c1) ⟨ho, .ref l, H, I, rfl, qs hs1⟩
  · have hx : xs ≠ [] := fun e => hs1 (.inl e)
    have hk : k ≤ 0 := by
      have : k ≠ 1 := fun e => hs1 (.inr e)
      have : ¬ 2 ≤ k := fun e => hg ⟨hx, e⟩
      omega
    have c1 : (its.toArray.isEmpty || k == 1) = false := by
      have e1 : its.toArray.isEmpty = false := by
        cases its with
        | nil => exact absurd (List.length_eq_zero_iff.mp hle.symm) hx
        | cons a b => rfl
      rw [e1, Bool.false_or]
      exact beq_eq_false_iff_ne.mpr (by omega)
    have c2 : (decide (k ≤ 0) || its.toArray.isEmpty) = true := by rw [decide_eq_true hk]; rfl
    have e0 : k.toNat = 0 := by omega
    refine call_meets PySem.F.slot_tuple_mul ⟨_, ho, rfl⟩ PySem.F.entry_tuple_mul (PySem.F.args_tuple_mul_2 _ _) (tuple_mulE l its.toArray n dd sl k t c0 c1 c2) ⟨ho, ?_⟩
    have qn' := qn hx (by omega)
    rw [e0] at qn'
    refine ⟨.ref s.heap.objs.size, _, I.laid (t' := s.toks) (o := .tup []) (fun b ob q => Heap.get?_push_of_some _ q) (Nat.le_refl _) ?_, rfl, qn' _ (I.hok.fresh (Nat.le_refl _))⟩
    exact ⟨by decide, [], .nil, IsTup.new _ _⟩
section
variable {Γ : Ct} {δ : Dl} {μ : Mu} {Q : D → Mu → Prop}
theorem opd_repT {xs : List D} {i : Int} (h0 : -1000 ≤ i) (h1 : i ≤ 1000) (hl : xs.length ≤ 1000) (q : Q (.tup (List.replicate i.toNat xs).flatten) μ) : opd Γ (binaryOp .Mult) (.tup xs) (.int i) δ μ Q := opd_of op_repA fun F σ H vx vy a r1 r2 => by
  obtain ⟨p1, vs, rfl, e1, e2⟩ := dpT r1
  have e := dpI r2
  subst e
  refine ⟨p1, i, vs, rfl, rfl, Same.sqT a.sx.sub e1, h0, h1, by rw [← e2.length]; exact hl, fun z => ?_, fun z1 z2 p hp => ?_⟩
  · refine PostE.here a (d := .tup (List.replicate i.toNat xs).flatten) ?_ q
    rcases z with z | z
    · subst z
      have e : xs = [] := List.length_eq_zero_iff.mp (by rw [e2.length]; rfl)
      subst e
      rw [show (List.replicate i.toNat ([] : List D)).flatten = [] from by generalize i.toNat = m; induction m with
        | zero => rfl
        | succ m ih => rw [List.replicate_succ, List.flatten_cons, ih]; rfl]
      exact r1
    · subst z
      rw [show (List.replicate (1 : Int).toNat xs).flatten = xs from by show (List.replicate 1 xs).flatten = xs; simp]
      exact r1
  · have sF := same_upd (o := HO.tup (List.replicate i.toNat vs).flatten) (a.sx.sub.free hp)
    refine PostE.new a hp (dpt (.inl (.inl upd_same)) (Dps.mono sF ?_)) q
    generalize i.toNat = m
    induction m with
    | zero => exact Dps.nil
    | succ m ih =>
      rw [List.replicate_succ, List.replicate_succ, List.flatten_cons, List.flatten_cons]
      exact e2.append ih
end
end PD
/-! PD27: facts for own operators by the methods. -/
namespace PD
open PySem PySem.Spec PyProof.Rows L2
section
variable {K : PySem.W.Frag} {C f g : Addr}
theorem binOwn_of {nm : String} {z : Str} (m : Meth K C z f) (h : PySem.W.selfFirst K C = true) (e : PySem.dunder nm = z := by decide +kernel) : BinOwn K C f nm := ⟨by rw [e]; exact m.at_, m.fn, h⟩
def intB (K : PySem.W.Frag) (C : Addr) : Bool := decide (PySem.W.subIn K (.type "int") (.ref C) = some false) && decide (PySem.W.mroIn K C (.type "int") = some false)
theorem binInt_of (m : Meth K C "__mul__" f) (r : Meth K C "__rmul__" g) (h : PySem.W.selfFirst K C = true) (hi : intB K C = true) : BinInt K C f g "mul" := by
  obtain ⟨h1, h2⟩ := Bool.and_eq_true_iff.mp hi
  exact ⟨binOwn_of m h, by rw [show PySem.dunderR "mul" = ("__rmul__" : Str) from by decide +kernel]; exact r.at_, r.fn, of_decide_eq_true h1, of_decide_eq_true h2⟩
end
section
variable {Γ : Ct} {δ : Dl} {μ : Mu} {Q : D → Mu → Prop} {k j : Nat} {f C : Addr} {sp : SpD} {x y : D} {t : Value}
theorem opd_leM (m : Meth Γ.X.K C "__le__" f) (hx : InsC C x μ) (hy : TyQ Γ.X.K μ y t) (hn : PySem.W.notFirst Γ.X.K C t = true) (Cd : CallD Γ.X.prog Γ.X.w Γ.X.K Γ.X.mg Γ.X.base k f 2 [] sp) (hr : Room j Γ.X.A) (hkj : k ≤ j) (hu : Γ.X.A.units < cLine) (h : sp [x, y] μ Q fun _ _ _ _ => False) : opd Γ (compareOp .LtE) x y δ μ Q := opd_ordOwn (fun _ _ => rfl) m.at_ m.fn hx hy hn Cd hr hkj hu h
theorem opd_ltM (m : Meth Γ.X.K C "__lt__" f) (hx : InsC C x μ) (hy : TyQ Γ.X.K μ y t) (hn : PySem.W.notFirst Γ.X.K C t = true) (Cd : CallD Γ.X.prog Γ.X.w Γ.X.K Γ.X.mg Γ.X.base k f 2 [] sp) (hr : Room j Γ.X.A) (hkj : k ≤ j) (hu : Γ.X.A.units < cLine) (h : sp [x, y] μ Q fun _ _ _ _ => False) : opd Γ (compareOp .Lt) x y δ μ Q := opd_ordOwn (fun _ _ => rfl) m.at_ m.fn hx hy hn Cd hr hkj hu h
theorem opd_gtM (m : Meth Γ.X.K C "__gt__" f) (hx : InsC C x μ) (hy : TyQ Γ.X.K μ y t) (hn : PySem.W.notFirst Γ.X.K C t = true) (Cd : CallD Γ.X.prog Γ.X.w Γ.X.K Γ.X.mg Γ.X.base k f 2 [] sp) (hr : Room j Γ.X.A) (hkj : k ≤ j) (hu : Γ.X.A.units < cLine) (h : sp [x, y] μ Q fun _ _ _ _ => False) : opd Γ (compareOp .Gt) x y δ μ Q := opd_ordOwn (fun _ _ => rfl) m.at_ m.fn hx hy hn Cd hr hkj hu h
end
end PD
/-! PD28: dicts whose keys are ints and texts, owned. -/
namespace PD
open PySem PySem.Spec PyProof.Rows L2
abbrev Dic := List (Key × D)
def dic (kvs : Dic) : Cell := .dK (kvs.map (·.1)) (kvs.map (·.2))
def valY (kvs : Dic) (k : Key) : Option D := (kvs.find? fun kv => decide (kv.1 = k)).map (·.2)
def putY (kvs : Dic) (k : Key) (d : D) : Dic := if (kvs.any fun kv => decide (kv.1 = k)) = true then kvs.map (fun kv => if kv.1 = k then (kv.1, d) else kv) else kvs ++ [(k, d)]
def dropY (kvs : Dic) (k : Key) : Dic := kvs.filter fun kv => decide (kv.1 ≠ k)
def KVd (K : PySem.W.Frag) (F : Hp) : Dic → List (Key × V) → Prop
  | [], gs => gs = []
  | p :: r, gs => ∃ q t, gs = q :: t ∧ q.1 = p.1 ∧ Dp K F p.2 q.2 ∧ KVd K F r t
section
variable {K : PySem.W.Frag} {F F' : Hp}
theorem kvd_of : ∀ {kvs : Dic} {gs : List (Key × V)}, gs.map (·.1) = kvs.map (·.1) → Dps K F (kvs.map (·.2)) (gs.map (·.2)) → KVd K F kvs gs
  | [], gs, h, _ => by simpa [KVd] using h
  | p :: r, [], h, _ => by simp at h
  | p :: r, q :: t, h, hd => by
    rw [List.map_cons, List.map_cons] at h hd
    obtain ⟨v, ws, e, h1, h2⟩ := hd.uncons
    injection e with e1 e2
    injection h with h3 h4
    subst e1 e2
    exact ⟨q, t, rfl, h3, h1, kvd_of h4 h2⟩
theorem KVd.keys : ∀ {kvs : Dic} {gs : List (Key × V)}, KVd K F kvs gs → gs.map (·.1) = kvs.map (·.1)
  | [], gs, h => by cases (show gs = [] from h); rfl
  | p :: r, gs, h => by
    obtain ⟨q, t, rfl, h1, _, h3⟩ := (show ∃ q t, gs = q :: t ∧ q.1 = p.1 ∧ Dp K F p.2 q.2 ∧ KVd K F r t from h)
    rw [List.map_cons, List.map_cons, h1, KVd.keys h3]
theorem KVd.vals : ∀ {kvs : Dic} {gs : List (Key × V)}, KVd K F kvs gs → Dps K F (kvs.map (·.2)) (gs.map (·.2))
  | [], gs, h => by cases (show gs = [] from h); exact Dps.nil
  | p :: r, gs, h => by
    obtain ⟨q, t, rfl, _, h2, h3⟩ := (show ∃ q t, gs = q :: t ∧ q.1 = p.1 ∧ Dp K F p.2 q.2 ∧ KVd K F r t from h)
    rw [List.map_cons, List.map_cons]
    exact Dps.cons h2 (KVd.vals h3)
theorem KVd.length {kvs : Dic} {gs : List (Key × V)} (h : KVd K F kvs gs) : kvs.length = gs.length := by
  have := congrArg List.length h.keys
  rw [List.length_map, List.length_map] at this
  exact this.symm
theorem KVd.any (k : Key) : ∀ {kvs : Dic} {gs : List (Key × V)}, KVd K F kvs gs → (gs.any fun kv => decide (kv.1 = k)) = kvs.any fun kv => decide (kv.1 = k)
  | [], gs, h => by cases (show gs = [] from h); rfl
  | p :: r, gs, h => by
    obtain ⟨q, t, rfl, h1, _, h3⟩ := (show ∃ q t, gs = q :: t ∧ q.1 = p.1 ∧ Dp K F p.2 q.2 ∧ KVd K F r t from h)
    rw [List.any_cons, List.any_cons, h1, KVd.any k h3]
theorem KVd.val (k : Key) : ∀ {kvs : Dic} {gs : List (Key × V)}, KVd K F kvs gs → (∀ d, valY kvs k = some d → ∃ v, valV gs k = some v ∧ Dp K F d v) ∧ (valY kvs k = none → valV gs k = none)
  | [], gs, h => by cases (show gs = [] from h); exact ⟨(fun d e => nomatch e), fun _ => rfl⟩
  | p :: r, gs, h => by
    obtain ⟨q, t, rfl, h1, h2, h3⟩ := (show ∃ q t, gs = q :: t ∧ q.1 = p.1 ∧ Dp K F p.2 q.2 ∧ KVd K F r t from h)
    have ih := KVd.val k h3
    by_cases e : p.1 = k
    · have e1 : valY (p :: r) k = some p.2 := by simp [valY, List.find?_cons, e]
      have e2 : valV (q :: t) k = some q.2 := valV_pos (h1.trans e)
      rw [e1, e2]
      exact ⟨fun d z => by cases z; exact ⟨q.2, rfl, h2⟩, fun z => nomatch z⟩
    · have e1 : valY (p :: r) k = valY r k := by simp [valY, List.find?_cons, e]
      have e2 : valV (q :: t) k = valV t k := valV_neg (fun z => e (h1.symm.trans z))
      rw [e1, e2]
      exact ih
theorem KVd.snoc {k : Key} {d : D} {v : V} (r : Dp K F d v) : ∀ {kvs : Dic} {gs : List (Key × V)}, KVd K F kvs gs → KVd K F (kvs ++ [(k, d)]) (gs ++ [(k, v)])
  | [], gs, h => by cases (show gs = [] from h); exact ⟨_, _, rfl, rfl, r, rfl⟩
  | p :: r', gs, h => by
    obtain ⟨q, t, rfl, h1, h2, h3⟩ := (show ∃ q t, gs = q :: t ∧ q.1 = p.1 ∧ Dp K F p.2 q.2 ∧ KVd K F r' t from h)
    exact ⟨q, _, rfl, h1, h2, KVd.snoc r h3⟩
theorem KVd.over {k : Key} {d : D} {v : V} (r : Dp K F d v) : ∀ {kvs : Dic} {gs : List (Key × V)}, KVd K F kvs gs → KVd K F (kvs.map fun kv => if kv.1 = k then (kv.1, d) else kv) (gs.map fun kv => if kv.1 = k then (kv.1, v) else kv)
  | [], gs, h => by cases (show gs = [] from h); rfl
  | p :: r', gs, h => by
    obtain ⟨q, t, rfl, h1, h2, h3⟩ := (show ∃ q t, gs = q :: t ∧ q.1 = p.1 ∧ Dp K F p.2 q.2 ∧ KVd K F r' t from h)
    refine ⟨_, _, rfl, ?_, ?_, KVd.over r h3⟩
    · show (if q.1 = k then (q.1, v) else q).1 = (if p.1 = k then (p.1, d) else p).1
      rw [h1]; split <;> first | rfl | exact h1
    · show Dp K F (if p.1 = k then (p.1, d) else p).2 (if q.1 = k then (q.1, v) else q).2
      rw [h1]; split <;> first | exact r | exact h2
theorem KVd.put {kvs : Dic} {gs : List (Key × V)} (h : KVd K F kvs gs) (k : Key) {d : D} {v : V} (r : Dp K F d v) : KVd K F (putY kvs k d) (putK gs k v) := by
  unfold putY putK
  rw [h.any k]
  split
  · exact h.over r
  · exact h.snoc r
theorem KVd.drop (k : Key) : ∀ {kvs : Dic} {gs : List (Key × V)}, KVd K F kvs gs → KVd K F (dropY kvs k) (dropK gs k)
  | [], gs, h => by cases (show gs = [] from h); rfl
  | p :: r, gs, h => by
    obtain ⟨q, t, rfl, h1, h2, h3⟩ := (show ∃ q t, gs = q :: t ∧ q.1 = p.1 ∧ Dp K F p.2 q.2 ∧ KVd K F r t from h)
    have ih := KVd.drop k h3
    unfold dropY dropK at ih ⊢
    rw [List.filter_cons, List.filter_cons, h1]
    split
    · exact ⟨q, _, rfl, h1, h2, ih⟩
    · exact ih
end
/-! ### a dict that stands in a cell -/
def DicAt (μ : Mu) (p : Addr) (kvs : Dic) : Prop := (p, dic kvs) ∈ μ ∨ ∃ od gs, (p, Cell.dF od gs (kvs.map (·.2))) ∈ μ ∧ gs.map (·.1) = kvs.map (·.1)
section
variable {Γ : Ct} {δ : Dl} {μ : Mu} {Q : D → Mu → Prop} {p : Addr} {kvs : Dic} {k : Key} {d : D} {μ1 μ2 : Mu} {F H : Hp} {σ : L2.St} {pos : Pos}
theorem cell_dic (a : At Γ F δ μ σ H) (h : (p, dic kvs) ∈ μ) : ∃ gs, H p = some (.dK gs) ∧ KVd Γ.X.K F kvs gs := by
  obtain ⟨gs, h1, h2, h3⟩ := a.sx.cells _ h
  exact ⟨gs, h1, kvd_of h2 h3⟩
theorem dicAt (a : At Γ F δ μ σ H) (h : DicAt μ p kvs) : ∃ gs, Rd H p (.dK gs) ∧ KVd Γ.X.K F kvs gs := by
  rcases h with h | ⟨od, gs, h, e⟩
  · obtain ⟨gs, h1, h2⟩ := cell_dic a h
    exact ⟨gs, .inl h1, h2⟩
  · obtain ⟨h1, h2⟩ := a.sx.cells _ h
    exact ⟨gs, .inr ⟨od, h1⟩, kvd_of e h2⟩
theorem cld_len_Y (h : DicAt μ p kvs) (q : Q (.int (kvs.length : Nat)) μ) : cld Γ (.builtin "len") [.ref p] δ μ Q := fun F σ H vs a r0 pins s σ' us I q1 => by
  obtain ⟨gs, h1, h2⟩ := dicAt a h
  obtain ⟨v, ws, rfl, r1, r2⟩ := r0.uncons
  obtain rfl := r2.unnil
  have e := dpR r1
  subst e
  obtain ⟨u, rfl, ru⟩ := q1.one
  obtain rfl : u = Value.ref p := ru
  refine d_len I h1 fun t s' I' => ⟨.int (gs.length : Nat), H, I', ⟨t, rfl⟩, ?_⟩
  rw [← h2.length]
  exact PostE.here a (d := .int (kvs.length : Nat)) (by rw [Dp]) q
/-! ### a dict is locked while it is walked -/
end
end PD
/-! PD29: walks over a locked dict. -/
namespace PD
open PySem PySem.Spec PyProof.Rows L2
/-! ### a statement while a dict is locked -/
end PD
/-! PD30: set(a list of ints), sorted of it. -/
namespace PD
open PySem PySem.Spec PyProof.Rows L2
/-- a set just made -/
abbrev fsO (w : World) : Obj := { cls := .type "set", dict := none, data := .set #[] 0 (.fresh 0 0 (!w.params.followText "set-order")) }
section
variable {P : Program} {w : World} {A : Around} {E : Value → Shared → Prop} {s : Shared}
theorem set_of_ints {l : Addr} {items : Array Value} (ns : List Int) {Q : Value → Shared → Prop} (hh : A.handled = none) (hl : s.heap.IsList l items) (hit : IntsAre items.toList ns) (hb : ns.length + 1 < scanBound)
    (h : ∀ (h' : Heap) (tk c : Nat), SetR w h' s.heap.objs.size (fun j => decide (j ∈ ns)) c → c ≤ ns.length → (∀ b o, s.heap.get? b = some o → h'.get? b = some o) → Q (.ref s.heap.objs.size) { s with heap := h', toks := tk }) :
    wpAny (model P w) A (call (.type "set") [.ref l]) Q E s := by
  have hisz : items.size = ns.length := by
    rw [← IntsAre.length hit, Array.length_toList]
  have hbelow : ∀ {b : Addr} {o : Obj}, s.heap.get? b = some o → b < s.heap.objs.size := fun e => Heap.lt_size e
  obtain ⟨c, tl, hmro⟩ := F.called_set.mro
  have hmade := F.called_set.made
  have hsub := F.called_set.sub
  refine wpAny_call (codeAny_of_tree ?_)
  show wpAny _ _ (callAny (.type "set") _) _ _ _
  refine wpAny_pure ⟨Code.quiet_builtin _ (by decide +kernel), codeAny_builtin F.entry_type_call ?_⟩
  rw [Around.under_plain (weight_type_call_type "set" [.ref l] []) rfl]
  have h1 := F.called_set.notType
  have h2 := F.called_set.canCreate
  have hct := F.typeCall_set_1 (.ref l)
  repeat (any_goals (first | assumption | wp_step))
  refine codeAny_mono (code_set_led1 (.ref l) (E := E) (Q₁ := fun obj s₁ => obj = .ref s.heap.objs.size ∧ s₁ = { s with heap := s.heap.push (fsO w) }) ⟨rfl, rfl⟩) fun r s₁ hr => ?_
  cases r with
  | error e => exact hr
  | ok fl =>
    cases fl with
    | ret obj =>
      obtain ⟨rfl, rfl⟩ := hr
      have hS : (s.heap.push (fsO w)).get? s.heap.objs.size = some (fsO w) := Heap.get?_push_size _ rfl
      have hT : Shared.TypeIs { s with heap := s.heap.push (fsO w) } (.ref s.heap.objs.size) "set" := ⟨_, hS, rfl⟩
      have hli := F.called_set.init.lookup
      have hbi := F.called_set.init.bind (.ref s.heap.objs.size)
      repeat (any_goals (first | assumption | wp_step))
      refine codeAny_mono (codeAny_call_builtin (R := wants (fun r s₂ => r = .none ∧ ∃ h' tk c, s₂ = { s with heap := h', toks := tk } ∧ SetR w h' s.heap.objs.size (fun j => decide (j ∈ ns)) c ∧ c ≤ ns.length ∧
          (∀ b o, s.heap.get? b = some o → h'.get? b = some o)) E) F.called_set.init.plain F.entry_set_init (check_set_init_1 hT ?_)) fun r₂ s₂ hr₂ => ?_
      · obtain ⟨ol, hol, hcl, nl, hdl⟩ := hl
        obtain ⟨ocls, odict, odata, oslots⟩ := ol
        simp only at hcl hdl
        subst hcl hdl
        have hol' : (s.heap.push (fsO w)).get? l = some { cls := .type "list", dict := odict, data := .seq items nl, slots := oslots } := Heap.get?_push_of_some _ hol
        have hsls := F.sub_list_set
        have hslf := F.sub_list_frozenset
        have hne : (Value.type "list" == Value.type "dict") = false := by decide
        have hl1 : (s.heap.push (fsO w)).IsList l items := ⟨_, hol', rfl, nl, rfl⟩
        unfold Builtin.«set.__init__» noKeywords Builtin.Frozenset.updateFrom
        generalize hPI : pyIter = PI
        wp_walk
        subst hPI
        refine wpAny_pyIter_list hl1 (wpAny_bind (wpAny_runValue ?_))
        have hlS : l < s.heap.objs.size := hbelow hol
        have hh3 : A.in1.in1.in1.handled = none := by simp [hh]
        have hz1 : (s.heap.push (fsO w)).objs.size = s.heap.objs.size + 1 := Heap.size_push ..
        have hneI : l ≠ (s.heap.push (fsO w)).objs.size := by rw [hz1]; exact Nat.ne_of_lt (Nat.lt_succ_of_lt hlS)
        have hSf : s.heap.objs.size ∉ [(s.heap.push (fsO w)).objs.size, l] := by
          rw [hz1]; simp only [List.mem_cons, List.not_mem_nil, or_false, not_or]
          exact ⟨Nat.ne_of_lt (Nat.lt_succ_self _), Nat.ne_of_gt hlS⟩
        have hval : ∀ (i : Nat) (v : Value), items[i]? = some v → ∃ k t, ns[i]? = some k ∧ v = .int k t := fun i v hv => by
          have hi : i < ns.length := by rw [← hisz]; exact (Array.getElem?_eq_some_iff.mp hv).1
          obtain ⟨t, e⟩ := PyProof.Rows.IntsAre.int_at hit i v (by rw [Array.getElem?_toList]; exact hv)
          refine ⟨ns[i], t, List.getElem?_eq_getElem hi, ?_⟩
          rw [e, List.getD_eq_getElem?_getD, List.getElem?_eq_getElem hi] <;> rfl
        refine set_update_ints ((Walks.list hh3 _ l hneI items).toS) s.heap.objs.size hSf ns hisz hb hval (items.size - 0) 0 _ (by omega) (Nat.zero_le _) ⟨⟨_, Heap.get?_push_size _ rfl, rfl, rfl⟩, (hl1.push _)⟩ ?hS0 ?hR
        case hS0 => exact ⟨0, Nat.le_refl 0, setR_new_at (Heap.get?_push_of_some _ hS)⟩
        case hR =>
          intro s' c' hm hc' hS'
          obtain ⟨h', g2, d', tk', os'⟩ := s'
          obtain rfl : g2 = s.gens := hm.gens
          obtain rfl : d' = s.drawn := hm.drawn
          obtain rfl : os' = s.os := hm.os
          show wpAny _ _ _ _ _ _
          refine wpAny_pure ?_
          show wpAny _ _ (ret Value.none) _ _ _
          rw [hisz] at hc'
          refine wpAny_pure ⟨rfl, h', tk', c', rfl, hS', hc', fun b o e => ?_⟩
          have hb0 := hbelow e
          refine hm.heap b o ?_ (Heap.get?_push_of_some _ (Heap.get?_push_of_some _ e))
          simp only [List.mem_cons, List.not_mem_nil, or_false, not_or]
          exact ⟨Nat.ne_of_lt hb0, by rw [hz1]; exact Nat.ne_of_lt (Nat.lt_succ_of_lt hb0)⟩
      · cases r₂ with
        | error e => exact hr₂
        | ok fl₂ =>
          cases fl₂ with
          | ret r =>
            obtain ⟨rfl, h', tk, c', rfl, hS', hc', hk'⟩ := hr₂
            repeat (any_goals (first | assumption | wp_step))
            exact h _ _ _ hS' hc' hk'
          | _ => exact hr₂.elim
    | _ => exact hr.elim
end
/-- set(xs), xs a list of ints -/
def rSetLst (K : PySem.W.Frag) (w : World) : List V → Hp → VK → Prop := fun xs H Q => ∃ (l : Addr) (ns : List Int), xs = [V.ref l] ∧ SqL K H l (ns.map V.int) ∧ ns.length ≤ 1000 ∧ ∀ p c, c ≤ ns.length → H p = none → Q (.ref p) (upd H p (SetO w p (fun j => decide (j ∈ ns)) c))
section
variable {X : Cx}
theorem cr_setLst (hc : X.calm = true) : CallR X (.type "set") (rSetLst X.K X.w) := by
  intro pins s σ H xs us Q I r h
  obtain ⟨l, ns, rfl, hq, hn, q⟩ := h
  obtain ⟨u, rfl, ru⟩ := r.one
  obtain rfl : u = Value.ref l := ru
  obtain ⟨its, rv, hp, hz⟩ := I.list hq
  refine set_of_ints ns (I.ok.hd hc) hp.isList (by rw [List.toList_toArray]; exact ints_of_vals rv) (Nat.lt_of_le_of_lt (Nat.succ_le_succ hn) (by decide)) fun h' tk c R hcl hk => ?_
  exact ⟨.ref _, upd H s.heap.objs.size (SetO X.w s.heap.objs.size (fun j => decide (j ∈ ns)) c), I.laid (t' := tk) hk (Nat.le_refl _) (setO_new R), rfl, q _ c hcl (I.hok.fresh (Nat.le_refl _))⟩
end
section
variable {Γ : Ct} {δ : Dl} {μ : Mu} {Q : D → Mu → Prop} {e : Expr} {p1 p2 p3 p4 : Pos}
/-- sorted(set(e)) -/
theorem ed_sortedSet (hc : Γ.X.calm = true) (hm1 : Γ.X.mg "sorted" = none) (hm2 : Γ.X.mg "set" = none) (h : ed Γ e δ μ fun d μ1 => ∃ ns : List Int, d = .lst (ns.map .int) ∧ ns.length < 64 ∧ ∀ ns' : List Int, ns'.Pairwise (· < ·) → (∀ k, k ∈ ns' ↔ k ∈ ns) → Q (.lst (ns'.map .int)) μ1)
    (hg1 : Gl Γ.X "sorted" := by rfl) (hg2 : Gl Γ.X "set" := by rfl)
    (he1 : starEach [(.Call (.Name "set" p2) [e] [] p3 : Expr)] Γ.X.env = (false, eval (.Call (.Name "set" p2) [e] [] p3) Γ.X.env) :: starEach [] Γ.X.env := by rfl) (hpl1 : (backTo p4 (starEach [] Γ.X.env)).any (·.1) = false := by rfl)
    (he2 : starEach [e] Γ.X.env = (false, eval e Γ.X.env) :: starEach [] Γ.X.env := by rfl) (hpl2 : (backTo p3 (starEach [] Γ.X.env)).any (·.1) = false := by rfl) :
    ed Γ (.Call (.Name "sorted" p1) [.Call (.Name "set" p2) [e] [] p3] [] p4) δ μ Q := fun F σ H a => by
  refine we_of (pe_callB (cr_sortedSet hc) hg1 hm1 (by decide +kernel) (pa_cons (pe_callTy (cr_setLst hc) hg2 hm2 (by decide +kernel) (pa_cons pe_we pa_nil he2) (by decide +kernel) (by decide +kernel) he2 hpl2) pa_nil he1) (by decide +kernel) (by decide +kernel) he1 hpl1) ?_
  refine we_mono (h F σ H a) fun v H1 ⟨F1, d, μ1, s1, a1, r1, ns, e1, hn, q⟩ => ?_
  subst e1
  obtain ⟨l, vs, rfl, g1, g2⟩ := dpL r1
  rw [Dps.ints g2] at g1
  refine ⟨l, ns, rfl, .inl (.inl (a1.sx.sub _ _ g1)), by omega, fun p c hcl hp => ⟨p, _, c, rfl, upd_same, by omega, fun ns' p2 hs hm hl hp2 => ?_⟩⟩
  have a2 := a1.ext (same_upd (o := SetO Γ.X.w p (fun j => decide (j ∈ ns)) c) hp)
  exact PostE.up s1 (PostE.new (o := .lst (ns'.map V.int)) a2 hp2 (dpl upd_same Dps.of_ints) (q ns' hs fun k => by rw [hm k]; simp))
end
end PD
/-! PD31: [elt for tg in iter if .. for tg1 in iter1 if ..]. -/
namespace PD
open PySem PySem.Spec PyProof.Rows L2
section
variable {Γ : Ct} {elt tg iter tg1 iter1 : Expr} {ifs ifs1 : List Expr} {scope : Scope} {own : List (Str × Nat)} {vs1 : List Nat} {pos : Pos} {δ : Dl} {μ : Mu} {Q : D → Mu → Prop}
/-- the inner source, as it is asked in a block -/
def lcd1 (Γ : Ct) (elt tg1 iter1 : Expr) (ifs1 : List Expr) (scope : Scope) (vs1 : List Nat) (δ2 : Dl) (μ3 : Mu) (acc : List D) (Nx : List D → Mu → Prop) : Prop :=
  allB Γ scope fun Γe => eid Γe tg1 iter1 δ2 μ3 fun ds1 S1 μ4 => ∃ I1 : Nat → List D → Mu → Prop, I1 0 acc μ4 ∧ (∀ j acc' μ', j ≤ ds1.length → I1 j acc' μ' → S1 μ' ∧ acc'.length ≤ 1000000) ∧
    (∀ j d1 acc' μ', ds1[j]? = some d1 → I1 j acc' μ' → allB Γ scope fun Γf => gv Γf tg1 d1 vs1 (wipeD δ2 vs1) μ' fun δ3 μ5 => allB Γ scope fun Γg => eif Γg ifs1 δ3 μ5 fun b μ6 =>
      if b = true then allB Γ scope fun Γh => ed Γh elt δ3 μ6 fun r μ7 => I1 (j + 1) (acc' ++ [r]) μ7 else I1 (j + 1) acc' μ6) ∧ ∀ acc' μ', I1 ds1.length acc' μ' → Nx acc' μ'
def lcd2 (Γ : Ct) (elt tg iter : Expr) (ifs : List Expr) (tg1 iter1 : Expr) (ifs1 : List Expr) (scope : Scope) (vs vs1 : List Nat) (δ : Dl) (μ : Mu) (Q : List D → Mu → Prop) : Prop := eid Γ tg iter δ μ fun ds S μ1 => ∃ I : Nat → List D → Mu → Prop, I 0 [] μ1 ∧ (∀ i acc μ', i ≤ ds.length → I i acc μ' → S μ') ∧
      (∀ i d acc μ', ds[i]? = some d → I i acc μ' → allB Γ scope fun Γb => gv Γb tg d vs (wipeD δ vs) μ' fun δ2 μ2 => allB Γ scope fun Γc => eif Γc ifs δ2 μ2 fun b μ3 =>
        if b = true then lcd1 Γ elt tg1 iter1 ifs1 scope vs1 δ2 μ3 acc (fun acc' μ' => I (i + 1) acc' μ') else I (i + 1) acc μ3) ∧ ∀ acc μ', I ds.length acc μ' → Q acc μ'
def wiB (X : Cx) (scope : Scope) (tg iter : Expr) : TI := fun σ H R => ∀ s H0 C cl fp, wi (X.blk s H0 scope (compEnvC scope cl C X.env) fp) tg iter σ H R
theorem pi_wiB {X : Cx} (s H C cl fp) : PI (X.blk s H scope (compEnvC scope cl C X.env) fp) tg iter (wiB X scope tg iter) := ⟨fun pins s' σ H' R I h => h s H C cl fp pins s' I⟩
theorem lcd2_run {vs : List Nat} {Q : List D → Mu → Prop} (h : lcd2 Γ elt tg iter ifs tg1 iter1 ifs1 scope vs vs1 δ μ Q) (F σ H) (a : At Γ F δ μ σ H) :
    tLc2 (wi Γ.X tg iter) (wgB Γ.X scope tg) (wtB Γ.X scope ifs) (wiB Γ.X scope tg1 iter1) (wgB Γ.X scope tg1) (wtB Γ.X scope ifs1) (weB Γ.X scope elt) vs vs1 σ H (PostE Γ F δ σ fun d μ' => ∃ ds, d = .lst ds ∧ Q ds μ') := by
  refine wi_mono (h F σ H a) fun J H1 ⟨F1, ds, S, μ1, s1, a1, ok, I, h0, hS, hb, hd⟩ => fun Da hD => ?_
  have h0D : Γ.H0 Da = none ∨ Da ∈ dom Γ.μ0 := a1.st.back hD
  refine ⟨fun i m H' => m = ds.length - i ∧ i ≤ ds.length ∧ ∃ F' acc μ', LcAt Γ F1 δ σ Da acc μ' H' F' ∧ I i acc μ', ⟨ds.length, by simp, Nat.zero_le _, F1, [], μ1, ⟨Same.refl _, a1.ext (same_upd hD), ⟨[], upd_same, Dps.nil⟩, a1.sx.sub.free hD, fun hm => ?_⟩, h0⟩, ?_⟩
  · obtain ⟨c, hc, e⟩ := List.mem_map.mp hm
    obtain ⟨u, hu⟩ := (a1.sx.cells c hc).there
    rw [e, hD] at hu; cases hu
  rintro i m H' ⟨rfl, hi, F', acc, μ', L, hI⟩
  have hSi := hS i acc μ' hi hI
  by_cases hlt : i < ds.length
  · have e : ds[i]? = some ds[i] := List.getElem?_eq_getElem hlt
    have ah := L.at_.here
    obtain ⟨g1, g2⟩ := ok.go (Γ.here L.at_.st) rfl i F' δ μ' σ H' L.sm ah hSi _ e
    refine .inr ⟨g1, fun H2 => ∃ F2 acc2 μ2, LcAt Γ F1 δ σ Da acc2 μ2 H2 F2 ∧ I (i + 1) acc2 μ2, fun H2 ⟨F2, acc2, μ2, L2', q2⟩ => ⟨ds.length - (i + 1), by omega, rfl, hlt, F2, acc2, μ2, L2', q2⟩, fun x H2 y => ?_⟩
    obtain ⟨F2, s2, a2, r2⟩ := g2 x H2 y
    have LL := L.step (σb := σ) (δb := δ) a2.st a2.sx
    intro sB HB C cl fp
    have aB : At (Γ.blk scope sB HB C cl fp F2 μ' H2) F2 (wipeD δ vs) μ' (L2.wipe σ vs) H2 := ⟨Step.refl _ _ _, LL.at_.sx, LL.at_.fr.wipe vs⟩
    refine wg_mono (hb i _ acc μ' e hI sB HB C cl fp F2 μ' H2 F2 (L2.wipe σ vs) H2 x aB r2) fun σ3 H3 ⟨w3, F3, δ3, μ3, s3, a3, q3⟩ => ⟨w3.trans wipe_wipe, ?_⟩
    have L3 := LL.step (σb := σ) (δb := δ) a3.st a3.sx
    intro sB2 HB2 C2 cl2 fp2
    have aC : At (Γ.blk scope sB2 HB2 C2 cl2 fp2 F3 μ3 H3) F3 δ3 μ3 σ3 H3 := ⟨Step.refl _ _ _, a3.sx, a3.fr⟩
    refine eif_run (q3 sB2 HB2 C2 cl2 fp2 F3 μ3 H3) aC fun b H4 ⟨F4, μ4, s4, a4, q4⟩ => ?_
    have L4 := L3.step (σb := σ) (δb := δ) a4.st a4.sx
    cases b with
    | false =>
      rw [if_neg Bool.false_ne_true] at q4 ⊢
      exact ⟨F4, acc, μ4, L4, q4⟩
    | true =>
      rw [if_pos rfl] at q4 ⊢
      intro sB5 HB5 C5 cl5 fp5
      have aE : At (Γ.blk scope sB5 HB5 C5 cl5 fp5 F4 μ4 H4) F4 δ3 μ4 σ3 H4 := ⟨Step.refl _ _ _, a4.sx, a4.fr⟩
      refine wi_mono (q4 sB5 HB5 C5 cl5 fp5 F4 μ4 H4 F4 σ3 H4 aE) fun J1 H5 ⟨F5, ds1, S1, μ5, s5, a5, ok1, I1, i0, iS, ib, ie⟩ => ?_
      have L5 := L4.step (σb := σ) (δb := δ) a5.st a5.sx
      refine ⟨fun j k H' => k = ds1.length - j ∧ j ≤ ds1.length ∧ ∃ F' acc' μ', LcAt Γ F1 δ σ Da acc' μ' H' F' ∧ Same F5 F' ∧ I1 j acc' μ', ⟨ds1.length, by simp, Nat.zero_le _, F5, acc, μ5, L5, Same.refl _, i0⟩, ?_⟩
      rintro j k H6 ⟨rfl, hj, F6, acc6, μ6, L6, sm6, hI1⟩
      obtain ⟨hSj, hacc⟩ := iS j acc6 μ6 hj hI1
      by_cases hlt1 : j < ds1.length
      · have e1 : ds1[j]? = some ds1[j] := List.getElem?_eq_getElem hlt1
        have aI : At (Γ.blk scope sB5 HB5 C5 cl5 fp5 F6 μ6 H6) F6 δ3 μ6 σ3 H6 := ⟨Step.refl _ _ _, L6.at_.sx, a5.fr.mono sm6⟩
        obtain ⟨k1, k2⟩ := ok1.go (Γ.blk scope sB5 HB5 C5 cl5 fp5 F6 μ6 H6) rfl j F6 δ3 μ6 σ3 H6 sm6 aI hSj _ e1
        refine .inr ⟨k1, fun H7 => ∃ F7 acc7 μ7, LcAt Γ F1 δ σ Da acc7 μ7 H7 F7 ∧ Same F5 F7 ∧ I1 (j + 1) acc7 μ7, fun H7 ⟨F7, acc7, μ7, L7, sm7, q7⟩ => ⟨ds1.length - (j + 1), by omega, rfl, hlt1, F7, acc7, μ7, L7, sm7, q7⟩, fun x1 H7 y1 => ?_⟩
        obtain ⟨F7, s7, a7, r7⟩ := k2 x1 H7 y1
        have L7 := L6.step (σb := σ) (δb := δ) a7.st a7.sx
        intro sC HC D1 cl7 fp7
        have aF : At (Γ.blk scope sC HC D1 cl7 fp7 F7 μ6 H7) F7 (wipeD δ3 vs1) μ6 (L2.wipe σ3 vs1) H7 := ⟨Step.refl _ _ _, L7.at_.sx, a7.fr.wipe vs1⟩
        refine wg_mono (ib j _ acc6 μ6 e1 hI1 sC HC D1 cl7 fp7 F7 μ6 H7 F7 (L2.wipe σ3 vs1) H7 x1 aF r7) fun σ8 H8 ⟨w8, F8, δ8, μ8, s8, a8, q8⟩ => ⟨w8.trans wipe_wipe, ?_⟩
        have L8 := L7.step (σb := σ) (δb := δ) a8.st a8.sx
        intro sC2 HC2 D2 cl8 fp8
        have aG : At (Γ.blk scope sC2 HC2 D2 cl8 fp8 F8 μ8 H8) F8 δ8 μ8 σ8 H8 := ⟨Step.refl _ _ _, a8.sx, a8.fr⟩
        refine eif_run (q8 sC2 HC2 D2 cl8 fp8 F8 μ8 H8) aG fun b H9 ⟨F9, μ9, s9, a9, q9⟩ => ?_
        have L9 := L8.step (σb := σ) (δb := δ) a9.st a9.sx
        have smm : Same F5 F9 := ((sm6.trans s7).trans s8).trans s9
        cases b with
        | true =>
          rw [if_pos rfl] at q9 ⊢
          intro sC5 HC5 D5 cl9 fp9
          have aH : At (Γ.blk scope sC5 HC5 D5 cl9 fp9 F9 μ9 H9) F9 δ8 μ9 σ8 H9 := ⟨Step.refl _ _ _, a9.sx, a9.fr⟩
          refine we_mono (q9 sC5 HC5 D5 cl9 fp9 F9 μ9 H9 F9 σ8 H9 aH) fun v H10 ⟨F10, r, μ10, s10, a10, r10, q10⟩ => ?_
          have L10 := L9.step (σb := σ) (δb := δ) a10.st a10.sx
          obtain ⟨ws, g1', g2'⟩ := L10.ls
          refine ⟨ws, g1', ?_, F10, acc6 ++ [r], μ10, ⟨L10.sm, L10.at_.updFree h0D L10.f L10.m, ⟨ws ++ [v], upd_same, g2'.append (Dps.cons r10 Dps.nil)⟩, L10.f, L10.m⟩, smm.trans s10, q10⟩
          rw [← g2'.length, sizeLine_eq]
          omega
        | false =>
          rw [if_neg Bool.false_ne_true] at q9 ⊢
          exact ⟨F9, acc6, μ9, L9, smm, q9⟩
      · have ej : j = ds1.length := by omega
        subst ej
        have aI : At (Γ.blk scope sB5 HB5 C5 cl5 fp5 F6 μ6 H6) F6 δ3 μ6 σ3 H6 := ⟨Step.refl _ _ _, L6.at_.sx, a5.fr.mono sm6⟩
        exact .inl ⟨ok1.stop (Γ.blk scope sB5 HB5 C5 cl5 fp5 F6 μ6 H6) rfl _ F6 δ3 μ6 σ3 H6 sm6 aI hSj (Nat.le_refl _), F6, acc6, μ6, L6, ie acc6 μ6 hI1⟩
  · have e : i = ds.length := by omega
    subst e
    refine .inl ⟨ok.stop Γ rfl _ F' δ μ' σ H' L.sm L.at_ hSi (Nat.le_refl _), ?_⟩
    obtain ⟨ws, h1, h2⟩ := L.ls
    have sF := same_upd (o := HO.lst ws) L.f
    have ah := L.at_
    have a2 : At Γ (upd F' Da (.lst ws)) δ μ' σ H' := by
      refine ⟨⟨ah.st.ext.trans sF, ah.st.keep, fun b u h hn => ?_, ah.st.cell⟩, ⟨fun b u h => ?_, fun c hc => ?_, ah.sx.nd, fun c hc => (ah.sx.cells c hc).mono sF rfl⟩, ah.fr.mono sF⟩
      · by_cases q : b = Da
        · rw [q]; exact h0D
        · rw [upd_ne q] at h; exact ah.st.new b u h hn
      · by_cases q : b = Da
        · rw [q, upd_same] at h; rw [q, ← h]; exact h1
        · rw [upd_ne q] at h; exact ah.sx.sub _ _ h
      · rw [upd_ne (fun e => L.m (by rw [← e]; exact List.mem_map.mpr ⟨c, hc, rfl⟩))]; exact ah.sx.off c hc
    exact ⟨_, .lst acc, μ', s1.trans (L.sm.trans sF), a2, dpl upd_same (h2.mono sF), acc, rfl, hd acc μ' hI⟩
theorem ed_lc2 {own : List (Str × Nat)} {Q : D → Mu → Prop} (own_ : List (Str × Nat)) (e : own = own_) (hc : Γ.X.calm = true) (hN : Γ.X.N.Nodup) (ok : BlkOk Γ.X.N Γ.X.env.scope scope own) (hv : ∀ i ∈ vs1, i ∈ own.map (·.2)) (h : lcd2 Γ elt tg iter ifs tg1 iter1 ifs1 scope (own.map (·.2)) vs1 δ μ fun ds μ' => Q (.lst ds) μ')
    (hs : ∀ x, foldedSetIterable iter Γ.X.env x = pure x := by intro _; rfl) (hs1 : ∀ env x, foldedSetIterable iter1 env x = pure x := by intro _ _; rfl) : ed Γ (.ListComp elt [⟨tg, iter, ifs, 0⟩, ⟨tg1, iter1, ifs1, 0⟩] scope pos) δ μ Q := fun F σ H a =>
  we_mono (we_of (pe_lc2 hc hN pi_wi ok hv pg_wgB pts_wtB pi_wiB pg_wgB pts_wtB pe_weB hs hs1) (lcd2_run h F σ H a)) fun v H' ⟨F', d, μ', s, a', r, ds, e, q⟩ => ⟨F', d, μ', s, a', r, by rw [e]; exact q⟩
end
end PD
/-! PD32: *d of a dict; int(x), parts of slices as tests; other small rules. -/
namespace PD
open PySem PySem.Spec PyProof.Rows L2
end PD
/-! PD33: properties read. -/
namespace PD
open PySem PySem.Spec PyProof.Rows L2
section
variable {Γ : Ct} {δ : Dl} {μ : Mu} {Q : D → Mu → Prop} {k j n : Nat} {p g C : Addr} {m : Str} {sp : SpD} {dds : List D} {o : Expr} {pos : Pos}
theorem ed_propC (c : Cls Γ.X.K C) (hp : PropOf Γ.X.K C m p g) (Cd : CallD Γ.X.prog Γ.X.w Γ.X.K Γ.X.mg Γ.X.base k g 1 [] sp) (hr : Room j Γ.X.A) (hkj : k + 1 ≤ j)
    (h : ed Γ o δ μ fun x μ1 => InsC C x μ1 ∧ sp [x] μ1 Q fun _ _ _ _ => False) (hab : attributeBase o m Γ.X.env (eval o Γ.X.env) = eval o Γ.X.env := by rfl) : ed Γ (.Attribute o m pos) δ μ Q := fun F σ H a pins s I => by
  refine attr_of hab (thn (h F σ H a pins s I) fun u s1 ⟨v, H1, I1, rv, F1, x, μ1, s1', a1, r1, hi, q⟩ => ?_)
  obtain ⟨q', dx, od, rfl, rfl, ho, J⟩ := own_here hi a1 r1 I1 rv
  obtain ⟨rest, hrec⟩ := hp.rec_
  have I2 := I1.tok (s1.toks + 1)
  have hc : (PySem.W.clsIn Γ.X.K C).isSome = true := by
    obtain ⟨cd, hc, _⟩ := PySem.W.any_some c.hd
    rw [hc]; rfl
  refine PySem.W.get_bind I1.kIn J (PySem.W.plainGet_of (c.get m)).1 (PySem.W.findObj_data hc hp.at_ hp.get hp.tak) (PySem.W.plainGet_of (c.get m)).2 (wpAny_call (PySem.W.prop_get (s := { s1 with toks := s1.toks + 1 }) I1.kIn hrec ?_))
  obtain ⟨fd, ps, dvs, dus, e, b, vv, dd, G⟩ := (Cd.at_ false).ex
  have hs : spOf Γ.X.K ps.length sp ([.ref q'] ++ dvs) H1 (PostE Γ F δ σ Q) (fun _ _ _ => False) := ⟨F1, μ1, [x] ++ [], Q, fun _ _ _ _ => False, a1.sx, (Dps.cons r1 Dps.nil).append (dd F1), e.symm, by rw [List.append_nil]; exact q,
    fun v H' F' μ' d st sx rd q => ⟨F', d, μ', s1'.trans st.ext, ⟨a1.st.trans st, sx, a1.fr.mono st.ext⟩, rd, q⟩, fun _ _ _ _ _ _ _ _ _ _ z => z⟩
  have r0 : Vals [V.ref q'] [Value.ref q'] := .cons rfl .nil
  have r2 : Vals ([.ref q'] ++ dvs) ([.ref q'] ++ dus) := r0.append vv
  have l2 : ([Value.ref q'] ++ dus).length = ps.length := r2.length.symm.trans (G.len _ _ _ _ hs)
  refine codeAny_mono (G.run Γ.X.A.in1 Γ.X.stack { s1 with toks := s1.toks + 1 } H1 ⟨[.ref q'], []⟩ _ _ _ _ (hr.mono hkj).in1 I2.env0.in1 (b _ [.ref q'] I2.kIn l2) r2 hs) fun r s' hq => ?_
  cases r with
  | error er =>
    obtain ⟨_, _, _, _, _, _, _, _, _, _, _, _, z⟩ := hq
    exact z.elim
  | ok fl =>
    cases fl with
    | ret u =>
      obtain ⟨v, H', I3, rv, q3⟩ := I2.after hq
      show wpAny _ _ (handedOut u) _ _ _
      rw [PySem.W.handedOut_of (handed_of rv)]
      exact wpAny_pure ⟨v, H', I3, rv, q3⟩
    | next => exact False.elim hq
    | brk => exact False.elim hq
    | cont => exact False.elim hq
end
end PD
/-! PD34: len of an own thing; own [ ]. -/
namespace PD
open PySem PySem.Spec PyProof.Rows L2
section
variable {Γ : Ct} {δ : Dl} {μ : Mu} {Q : D → Mu → Prop} {k j n : Nat} {f C : Addr} {sp : SpD} {x y : D}
theorem cld_lenOwn (m : Meth Γ.X.K C "__len__" f) (hx : InsC C x μ) (Cd : CallD Γ.X.prog Γ.X.w Γ.X.K Γ.X.mg Γ.X.base k f 1 [] sp) (hr : Room j Γ.X.A) (hkj : k + 1 ≤ j)
    (h : sp [x] μ (fun d μ' => ∃ i : Int, d = .int i ∧ (0 ≤ i ∧ i < 2 ^ 62) ∧ Q (.int i) μ') fun _ _ _ _ => False) : cld Γ (.builtin "len") [x] δ μ Q := fun F σ H vs a r0 pins s σ' us I q1 => by
  obtain ⟨vx, ws, rfl, r1, r2⟩ := r0.uncons
  obtain rfl := r2.unnil
  obtain ⟨u, rfl, ru⟩ := q1.one
  obtain ⟨p, dx, od, rfl, rfl, _, J⟩ := own_here hx a r1 I ru
  obtain ⟨mm, hF⟩ := I.fr
  have z := cd_deep Cd (hr.mono hkj).in1 I.env0.in1 I a (ds := [x]) (us := [Value.ref p]) (Dps.cons r1 Dps.nil) (.cons rfl .nil) rfl h
  refine PySem.W.len_K hF I.ok.mod.kin J m.at_ m.fn (wpAny_mono z (fun w s' z => ?_) fun _ _ x => x)
  obtain ⟨z', H', I', rz, F', d, μ', s1, a', rd, i, rfl, hi, q⟩ := z
  have e := dpI rd
  subst e
  obtain ⟨t, rfl⟩ := (show ∃ t, w = Value.int i t from rz)
  exact ⟨⟨hi.1, by omega⟩, .int i, H', I'.tok _, ⟨_, rfl⟩, F', _, μ', s1, a', rd, q⟩
/-- o[i] of an own class, its __getitem__ letting nothing out -/
theorem ed_ixOwn {o i : Expr} {pos : Pos} (m : Meth Γ.X.K C "__getitem__" f) (hf : PySem.W.fnIn Γ.X.K f = true) (Cd : CallD Γ.X.prog Γ.X.w Γ.X.K Γ.X.mg Γ.X.base k f 2 [] sp) (hr : Room j Γ.X.A) (hkj : k + 1 ≤ j)
    (h : ed Γ o δ μ fun x μ1 => ed Γ i δ μ1 fun y μ2 => InsC C x μ2 ∧ sp [x, y] μ2 Q fun _ _ _ _ => False)
    (hsl : ∀ (a : Addr) (v : Value), subscripted i true (.ref a) v = runValue (.builtin "lifetime.subscript" ⟨[.ref a, v], []⟩) := by intros; with_unfolding_all rfl) : ed Γ (.Subscript o i pos) δ μ Q := fun F σ H a pins s I => by
  refine Subscript_ (thn (h F σ H a pins s I) fun u s1 ⟨v, H1, I1, rv, F1, x, μ1, s1', a1, r1, q1⟩ => thn (q1 F1 σ H1 a1 pins s1 I1) fun w s2 ⟨v2, H2, I2, rv2, F2, y, μ2, s2', a2, r2, hi, q⟩ => ?_)
  obtain ⟨p, dx, od, rfl, rfl, _, J⟩ := own_here hi a2 (r1.mono s2') I2 rv
  obtain ⟨mm, hF⟩ := I2.fr
  have z := cd_deep Cd (hr.mono hkj).in1 I2.env0.in1 I2 a2 (ds := [x, y]) (us := [Value.ref p, w]) (Dps.cons (r1.mono s2') (Dps.cons r2 Dps.nil)) (.cons rfl (.cons rv2 .nil)) rfl q
  refine PySem.W.sub_K hF I2.ok.mod.kin J m.at_ hf m.fn (wpAny_mono z (fun w s' z => EP_mono z fun _ _ z => PostE.up (s1'.trans s2') z) fun _ _ x => x) (hsl p w)
end
end PD
/-! PD35: numbers in lists: pop at a place, count, index, in; list(range(n)). -/
namespace PD
open PySem PySem.Spec PyProof.Rows L2
section
variable {Γ : Ct} {δ : Dl} {μ μ1 μ2 : Mu} {Q : D → Mu → Prop} {p : Addr}
theorem opd_inI {n : Int} {y : D} {xs : List D} (ns : List Int) (hs : SeqD μ y xs) (e : xs = ns.map .int) (q : Q (.bl (decide (n ∈ ns))) μ) : opd Γ (compareOp .In) (.int n) y δ μ Q := by
  subst e; exact opd_in hs rfl (PD.flat_ints ns) (by rw [inD_int]; exact q)
theorem opd_notInI {n : Int} {y : D} {xs : List D} (ns : List Int) (hs : SeqD μ y xs) (e : xs = ns.map .int) (q : Q (.bl (!decide (n ∈ ns))) μ) : opd Γ (compareOp .NotIn) (.int n) y δ μ Q := by
  subst e; exact opd_notIn hs rfl (PD.flat_ints ns) (by rw [inD_int]; exact q)
end
theorem isList_of {h : Heap} {a : Addr} {its : Array Value} (p : PlainL h a its) : h.IsList a its := by
  obtain ⟨o, n, h1, h2, h3, h4⟩ := p
  exact ⟨o, h1, h2, n, h4⟩
/-- xs != [], whatever the items -/
theorem opd_neNil {Γ : Ct} {δ : Dl} {μ : Mu} {Q : D → Mu → Prop} {xs : List D} (hu : Γ.X.A.units < cLine) (q : Q (.bl (!xs.isEmpty)) μ) : opd Γ (compareOp .NotEq) (.lst xs) (.lst []) δ μ Q := fun F σ H vx vy a r1 r2 pins s σ' v u I q1 q2 => by
  obtain ⟨p1, vs, rfl, g1, g2⟩ := dpL r1
  obtain ⟨p2, ws, rfl, g3, g4⟩ := dpL r2
  obtain rfl := g4.unnil
  obtain rfl : v = Value.ref p1 := q1
  obtain rfl : u = Value.ref p2 := q2
  obtain ⟨its, rv, hl, _⟩ := I.list (.inl (.inl (a.sx.sub _ _ g1)))
  obtain ⟨its2, rv2, hb, _⟩ := I.list (.inl (.inl (a.sx.sub _ _ g3)))
  obtain rfl : its2 = [] := by cases rv2; rfl
  have hn : xs.length = its.length := g2.length.trans rv.length
  refine PySem.W.cmp_ofNotEq ?_
  cases its with
  | nil =>
    have e : xs = [] := by cases xs with | nil => rfl | cons _ _ => cases hn
    subst e
    exact PySem.SeqAt.RcNeAt.lists (e := fun _ => true) (isList_of hl) (isList_of hb) rfl hu (fun j h1 _ => absurd h1 (Nat.not_lt_zero _)) _ _ _ _ ⟨.bl false, H, I, rfl, PostE.here a dpb q⟩
  | cons i its =>
    have e : xs.isEmpty = false := by cases xs with | nil => cases hn | cons _ _ => rfl
    rw [e] at q
    exact PySem.SeqAt.RcNeAt.lists_lengths (isList_of hl) (isList_of hb) (by simp) hu _ _ _ _ ⟨.bl true, H, I, rfl, PostE.here a dpb q⟩
theorem ga_same {K K' : PySem.W.Frag} {x : Str} (h : K = K') : He.ga K x = He.ga K' x := by rw [h]
end PD
/-! PD36: own [ ] that may raise. -/
namespace PD
open PySem PySem.Spec PyProof.Rows L2
section
variable {Γ : Ct} {δ : Dl} {μ : Mu} {Q : D → Mu → Prop} {k j n : Nat} {f C : Addr} {sp : SpD} {x y : D} {dds : List D}
/-- a call of a def, at any depth -/
theorem cd_deepX {A' : Around} {F H : Hp} {σ : L2.St} {pins : List (Addr × Obj)} {s : Shared} {ds : List D} {vs : List V} {us : List Value} (Cd : CallX Γ.nn Γ.X.prog Γ.X.w Γ.X.K Γ.X.mg Γ.X.base k f n dds sp) (hr : Room k A') (e0 : Env0 Γ.X.prog Γ.X.w Γ.X.K Γ.X.mg Γ.X.base A' Γ.X.stack s H)
    (I : Inv Γ.X pins σ H s) (a : At Γ F δ μ σ H) (r : Dps Γ.X.K F ds vs) (ru : Vals vs us) (hl : (ds ++ dds).length = n) (h : sp (ds ++ dds) μ Q fun cls ns xs μ' => Γ.W cls ns xs δ μ') :
    wpAny (model Γ.X.prog Γ.X.w) A' (call (.ref f) us) (EP Γ.X pins σ (PostE Γ F δ σ Q)) Γ.X.xe s := by
  obtain ⟨fd, ps, dvs, dus, e, b, v, dd, G⟩ := Cd.ex
  have hs := spOf_at (K := Γ.X.K) (n := ps.length) (sp := sp) (vs := vs ++ dvs) rfl a (r.append (dd F)) (hl.trans e.symm) h
  have r2 : Vals (vs ++ dvs) (us ++ dus) := ru.append v
  have l2 : (us ++ dus).length = ps.length := r2.length.symm.trans (G.len _ _ _ _ hs)
  refine wpAny_call (codeAny_mono (G.run A' Γ.X.stack s H ⟨us, []⟩ _ _ _ _ hr e0 (b s us I.kIn l2) r2 hs) fun res s' z => ?_)
  match res, z with
  | .ok (.ret u), z => exact I.after z
  | .error er, z => exact passAt Γ.tk σ pins H s er s' I z
theorem fnIn_of {K : PySem.W.Frag} {x qual : Str} {params : Arguments} {body : List Stmt} {scope : Scope} {dvs : List V} {kws : List (Str × V)} {f : Addr} {fd : FuncData} (F : FunD K x qual params body scope dvs kws f fd) : PySem.W.fnIn K f = true := by
  obtain ⟨oc, od, dV, kV, doc, pm, an, cdv, ct, osl, rfl, look, _, _, _⟩ := F.ex
  unfold PySem.W.fnIn
  rw [look]
/-- o[i] of an own class -/
theorem ed_ixOwnX {o i : Expr} {pos : Pos} (m : Meth Γ.X.K C "__getitem__" f) (hf : PySem.W.fnIn Γ.X.K f = true) (Cd : CallX Γ.nn Γ.X.prog Γ.X.w Γ.X.K Γ.X.mg Γ.X.base k f 2 [] sp) (hr : Room j Γ.X.A) (hkj : k + 1 ≤ j)
    (h : ed Γ o δ μ fun x μ1 => ed Γ i δ μ1 fun y μ2 => InsC C x μ2 ∧ sp [x, y] μ2 Q fun cls ns xs μ' => Γ.W cls ns xs δ μ')
    (hsl : ∀ (a : Addr) (v : Value), subscripted i true (.ref a) v = runValue (.builtin "lifetime.subscript" ⟨[.ref a, v], []⟩) := by intros; with_unfolding_all rfl) : ed Γ (.Subscript o i pos) δ μ Q := fun F σ H a pins s I => by
  refine Subscript_ (thn (h F σ H a pins s I) fun u s1 ⟨v, H1, I1, rv, F1, x, μ1, s1', a1, r1, q1⟩ => thn (q1 F1 σ H1 a1 pins s1 I1) fun w s2 ⟨v2, H2, I2, rv2, F2, y, μ2, s2', a2, r2, hi, q⟩ => ?_)
  obtain ⟨p, dx, od, rfl, rfl, _, J⟩ := own_here hi a2 (r1.mono s2') I2 rv
  obtain ⟨mm, hF⟩ := I2.fr
  have z := cd_deepX Cd (hr.mono hkj).in1 I2.env0.in1 I2 a2 (ds := [x, y]) (us := [Value.ref p, w]) (Dps.cons (r1.mono s2') (Dps.cons r2 Dps.nil)) (.cons rfl (.cons rv2 .nil)) rfl q
  refine PySem.W.sub_K hF I2.ok.mod.kin J m.at_ hf m.fn (wpAny_mono z (fun w s' z => EP_mono z fun _ _ z => PostE.up (s1'.trans s2') z) fun _ _ x => x) (hsl p w)
end
end PD
/-! PD37: try .. except X: raise C(e) from None. -/
namespace PD
open PySem PySem.Spec PyProof.Rows L2
/-- what may leave a def goes on by its own way out -/
def OutOf (X : Cx) : Prop := ∃ (K : Value → Shared → Prop) (E₁ : Value → Shared → Prop), X.xe = fun e s' => wpAny (model X.prog X.w) X.A (leaving X.env e) (fun _ s'' => K e s'') E₁ s'
theorem OutOf.at_ {X : Cx} (o : OutOf X) (hd : Option Value) : PassesOwnAt (model X.prog X.w) (X.A.mark hd) X.A X.env X.xe := by
  obtain ⟨K, E, e⟩ := o
  exact L2H.passesAt_of e hd
theorem OutOf.here {X : Cx} (o : OutOf X) (hd : Option Value) : PassesOwn (model X.prog X.w) (X.A.mark hd) X.env X.xe := by
  obtain ⟨K, E, e⟩ := o
  rw [e]
  exact PassesOwnAt.leavingOf (SameStack.mark X.A hd)
end PD
/-! PD38: repr of plain data. -/
namespace PD
open PySem PySem.Spec PyProof.Rows L2
end PD
/-! PD39: displays of dicts with keys that are numbers and texts. -/
namespace PD
open PySem PySem.Spec PyProof.Rows L2
end PD
/-! PD40: xs.extend(tuple). -/
namespace PySem
end PySem
namespace PD
open PySem PySem.Spec PyProof.Rows L2
end PD
/-! PD41: slices with steps, slice objects handed to own [ ]. -/
namespace PDS
open PySem PySem.Spec PyProof.Rows
section
variable {prog : Program} {w : World} {A : Around} {E : Value → Shared → Prop} {s : Shared}
def IsSlc (h : Heap) (a : Addr) (vl vu vs : Value) : Prop := ∃ o, h.get? a = some o ∧ o.cls = .type "slice" ∧ o.data = .fields #[vl, vu, vs]
/-- the places of a slice -/
def stepOf (st : Option Int) : Int := st.getD 1
def placesOf (lo hi st : Option Int) (n : Nat) : List Nat :=
  let p := Builtin.Slice.sliceAdjust lo hi (stepOf st) (n : Int)
  (List.range (Builtin.Slice.slicePlaces p.1 p.2 (stepOf st))).map fun (m : Nat) => (p.1 + (m : Int) * stepOf st).toNat
def pick {α : Type} (xs : List α) (lo hi st : Option Int) : List α := (placesOf lo hi st xs.length).filterMap (xs[·]?)
theorem sliceApplied_any {sl : Addr} {vl vu vs : Value} {lo hi st : Option Int} {n : Nat} {Q : Int × Int × Nat → Shared → Prop} (hs : IsSlc s.heap sl vl vu vs) (pl : IsPart vl lo) (pu : IsPart vu hi) (pt : IsPart vs st) (h0 : stepOf st ≠ 0)
    (h : Q ((Builtin.Slice.sliceAdjust lo hi (stepOf st) (n : Int)).1, stepOf st, Builtin.Slice.slicePlaces (Builtin.Slice.sliceAdjust lo hi (stepOf st) (n : Int)).1 (Builtin.Slice.sliceAdjust lo hi (stepOf st) (n : Int)).2 (stepOf st)) s) : wpAny (model prog w) A (Builtin.Slice.sliceApplied (.ref sl) (pure (n : Int))) Q E s := by
  obtain ⟨os, hos, hcs, hds⟩ := id hs
  unfold Builtin.Slice.sliceApplied Builtin.Slice.sliceFields
  refine wpAny_bind (wpAny_bind (wpAny_field hos hds (x := vl) rfl (wpAny_bind (wpAny_field hos hds (x := vu) rfl (wpAny_bind (wpAny_field hos hds (x := vs) rfl (wpAny_pure ?_)))))))
  refine wpAny_bind (HT.slicePart_ pt ?_)
  show wpAny _ _ (if (stepOf st == 0) = true then _ else _) _ _ s
  rw [if_neg (by simpa using h0)]
  refine wpAny_bind (HT.slicePart_ pl (wpAny_bind (HT.slicePart_ pu (wpAny_bind (wpAny_pure ?_)))))
  show wpAny _ _ (match Builtin.Slice.sliceAdjust lo hi (stepOf st) (n : Int) with | (lo, hi) => pure (lo, stepOf st, Builtin.Slice.slicePlaces lo hi (stepOf st))) _ _ s
  generalize Builtin.Slice.sliceAdjust lo hi (stepOf st) (n : Int) = p at h ⊢
  obtain ⟨a, b⟩ := p
  exact wpAny_pure h
theorem fm_congr {α β : Type} {f g : α → Option β} : ∀ {l : List α}, (∀ x ∈ l, f x = g x) → l.filterMap f = l.filterMap g
  | [], _ => rfl
  | a :: l, h => by rw [List.filterMap_cons, List.filterMap_cons, h a List.mem_cons_self, fm_congr fun x hx => h x (List.mem_cons_of_mem _ hx)]
theorem pick_whole {α : Type} (xs : List α) : (List.range xs.length).filterMap (fun (m : Nat) => xs[((0 : Int) + (m : Int) * 1).toNat]?) = xs := by
  have e : (fun (m : Nat) => xs[((0 : Int) + (m : Int) * 1).toNat]?) = fun m => xs[m]? := by
    funext m
    have : ((0 : Int) + (m : Int) * 1).toNat = m := by omega
    rw [this]
  rw [e]
  have key : ∀ n, n ≤ xs.length → (List.range n).filterMap (fun m => xs[m]?) = xs.take n := by
    intro n
    induction n with
    | zero => intro _; simp
    | succ n ih =>
      intro hn
      rw [List.range_succ, List.filterMap_append, ih (by omega), List.take_succ, List.getElem?_eq_getElem (by omega)]
      simp [List.getElem?_eq_getElem (show n < xs.length by omega)]
  rw [key _ (Nat.le_refl _), List.take_length]
theorem getItem_tuple_any {t sl : Addr} {items : Array Value} {vl vu vs : Value} {lo hi st : Option Int} {Q : Value → Shared → Prop} (ht : IsTup s.heap t items) (hs : IsSlc s.heap sl vl vu vs) (pl : IsPart vl lo) (pu : IsPart vu hi) (pt : IsPart vs st) (h0 : stepOf st ≠ 0)
    (hsame : (∀ {α : Type} (ys : List α), ys.length = items.size → pick ys lo hi st = ys) → Q (.ref t) s)
    (h : Q (.ref s.heap.objs.size) { s with heap := s.heap.push { cls := .type "tuple", data := .seq (pick items.toList lo hi st).toArray } })
    (hsz : (pick items.toList lo hi st).length ≤ sizeLine) : wpAny (model prog w) A (getItem (.ref t) (.ref sl)) Q E s := by
  have hok : sizeOk (.seq (pick items.toList lo hi st).toArray) := by
    show (pick items.toList lo hi st).toArray.size ≤ sizeLine
    rw [List.size_toArray]; exact hsz
  obtain ⟨os, hos, hcs, hds⟩ := id hs
  have hTs : s.TypeIs (.ref sl) "slice" := ⟨os, hos, hcs⟩
  unfold getItem
  try with_reducible refine wpAny_holding ?_
  first | refine wpAny_bind (wpAny_pure ?_) | skip
  refine wpAny_bind (wpAny_sequenceKey ht.typeIs (by decide) ?_)
  refine wpAny_bind (wpAny_callSpecial?_slot (name := Str.ofString "__getitem__") ht.typeIs PyProof.Rows.slot_tuple_getitem
    (wpAny_call_entry PyProof.Rows.slot_tuple_getitem ht.typeIs entry_tuple_getitem ?_ (args_tuple_getitem _ _)))
  show wpAny _ _ (Builtin.Tuple.tupleItemsOf (.ref t) >>= _) _ _ s
  refine wpAny_bind (tupleItemsOf_ ht ?_)
  refine wpAny_bind (wpAny_typeOf hTs ?_)
  rw [if_pos (by decide)]
  refine wpAny_bind (sliceApplied_any hs pl pu pt h0 ?_)
  have hp2 : ∀ {α : Type} (ys : List α), ys.length = items.size → pick ys lo hi st = (List.range (Builtin.Slice.slicePlaces (Builtin.Slice.sliceAdjust lo hi (stepOf st) (items.size : Int)).1 (Builtin.Slice.sliceAdjust lo hi (stepOf st) (items.size : Int)).2 (stepOf st))).filterMap fun (m : Nat) => ys[((Builtin.Slice.sliceAdjust lo hi (stepOf st) (items.size : Int)).1 + (m : Int) * stepOf st).toNat]? := fun {α} ys hy => by
    unfold pick placesOf
    rw [List.filterMap_map, hy]
    exact fm_congr fun m _ => rfl
  have hp : pick items.toList lo hi st = (List.range (Builtin.Slice.slicePlaces (Builtin.Slice.sliceAdjust lo hi (stepOf st) (items.size : Int)).1 (Builtin.Slice.sliceAdjust lo hi (stepOf st) (items.size : Int)).2 (stepOf st))).filterMap fun (m : Nat) => items[((Builtin.Slice.sliceAdjust lo hi (stepOf st) (items.size : Int)).1 + (m : Int) * stepOf st).toNat]? := by
    rw [hp2 items.toList Array.length_toList]
    exact fm_congr fun m _ => Array.getElem?_toList ..
  generalize Builtin.Slice.sliceAdjust lo hi (stepOf st) (items.size : Int) = p at hp hp2 ⊢
  obtain ⟨a, b⟩ := p
  dsimp only at hp hp2 ⊢
  by_cases hw : (a == 0 && stepOf st == 1 && (Builtin.Slice.slicePlaces a b (stepOf st)) == items.size) = true
  · have hq : ∀ {α : Type} (ys : List α), ys.length = items.size → pick ys lo hi st = ys := fun {α} ys hy => by
      rw [Bool.and_eq_true, Bool.and_eq_true] at hw
      have q1 : a = 0 := eq_of_beq hw.1.1
      have q2 : stepOf st = 1 := eq_of_beq hw.1.2
      have q3 : Builtin.Slice.slicePlaces a b (stepOf st) = items.size := eq_of_beq hw.2
      rw [hp2 ys hy, q3, q1, q2, ← hy]
      exact pick_whole ys
    rw [if_pos hw]
    refine wpAny_bind ?_
    show wpAny _ _ (typeOf (.ref t) >>= fun T => pure (T == .type "tuple")) _ _ s
    refine wpAny_bind (wpAny_typeOf ht.typeIs (wpAny_pure ?_))
    first
      | rw [if_pos (by decide)]
      | simp only [beq_self_eq_true, if_true]
    first
      | exact wpAny_bind (wpAny_rule (wpAny_pure ⟨_, rfl, wpAny_pure (hsame hq)⟩))
      | exact wpAny_bind (wpAny_rule (wpAny_bind (wpAny_pure (wpAny_pure ⟨_, rfl, wpAny_pure (hsame hq)⟩))))
  · rw [if_neg hw, ← hp]
    first
      | exact wpAny_bind (m := Builtin.Tuple.tupleExact _) (wpAny_newObj_type (wpAny_pure ⟨_, rfl, wpAny_pure h⟩) hok)
      | exact wpAny_bind (m := Builtin.Tuple.tupleExact _) (wpAny_newObj_type (wpAny_bind (wpAny_pure (wpAny_pure ⟨_, rfl, wpAny_pure h⟩))) hok)
      | exact wpAny_bind (wpAny_bind (m := Builtin.Tuple.tupleExact _) (wpAny_newObj_type (wpAny_pure (wpAny_pure ⟨_, rfl, wpAny_pure h⟩)) hok))
      | exact wpAny_bind (wpAny_bind (m := Builtin.Tuple.tupleExact _) (wpAny_newObj_type (wpAny_pure ⟨_, rfl, wpAny_pure h⟩) hok))
end
end PDS
/-! ### the class of a slice object -/
namespace PDS
open PySem
theorem slc_slot : Slot "slice" "__getattribute__" "slice.__getattribute__" :=
  .of (owner := "slice") (n := "__getattribute__") (by rw [typeLookup_type, builtinLookup_eq_fast]; kernel_rfl) (by decide +kernel) (by decide +kernel) (by decide +kernel)
    (by first | exact .inl (by decide +kernel) | exact .inr (by decide +kernel)) (by rw [isSubtype_type]; kernel_rfl)
theorem slc_args (a b : Value) : argsOk "slice.__getattribute__" ⟨[a, b], []⟩ := by unfold argsOk; kernel_rfl
theorem slc_entry : entryFor table "slice.__getattribute__" = some Builtin.«object.__getattribute__» := entryFor_alias (id' := "object.__getattribute__") (by kernel_rfl) (by first | rfl | decide +kernel) (by decide +kernel) (by kernel_rfl)
theorem slc_find : typeLookup (.type "slice") "__class__" = pure (some (.builtin "object.__class__")) := by rw [typeLookup_type, builtinLookup_eq_fast]; kernel_rfl
theorem slc_sub : isSubtype (.type "slice") (.type (".".intercalate ("object.__class__".cutAt '.').dropLast)) = pure true := by rw [F.owner_object_class, isSubtype_type]; kernel_rfl
theorem slc_class {prog : Program} {w : World} {A : Around} {E : Value → Shared → Prop} {s : Shared} {a : Addr} {Q : Option Value → Shared → Prop} (ty : ∃ o, s.heap.get? a = some o ∧ o.cls = .type "slice") (q : Q (some (.type "slice")) { s with toks := s.toks + 1 }) : wpAny (model prog w) A (getAttr? (.ref a) "__class__") Q E s := by
  have descr : ∀ z : Shared, z.TypeIs (.builtin "object.__class__") "getset_descriptor" := fun z => F.typeOf_object_class
  have way : ∀ {B : Around} {R : Result → Shared → Prop} {z : Shared}, z.TypeIs (.ref a) "slice" → R (.ok (.ret (.type "slice"))) z → codeAny (model prog w) B (.call (.builtin "getset_descriptor.__get__") ⟨[.builtin "object.__class__", .ref a, .type "slice"], []⟩) R z := fun {B R z} t r => by
    obtain ⟨h, g, d, k, os⟩ := z
    have d0 := descr ⟨h, g, d, k, os⟩
    have up := slc_sub
    refine codeAny_call_builtin F.slot_gs_get.plain F.entry_gs_get (F.slot_gs_get.check _ _ _ _ _ _ _ _ d0 (F.args_gs_get _ _ _) ?_)
    repeat (any_goals (first | assumption | wp_step))
    refine ⟨Code.quiet_builtin _ (by decide +kernel), codeAny_builtin F.entry_object_class ?_⟩
    repeat (any_goals (first | assumption | wp_step))
  have road : ∀ {B : Around} {tk : Tok} {R : Result → Shared → Prop} {z : Shared}, z.TypeIs (.ref a) "slice" → R (.ok (.ret (.type "slice"))) z → codeAny (model prog w) B (.call (.builtin "slice.__getattribute__") ⟨[.ref a, .str "__class__" tk], []⟩) R z := fun {B tk R z} t r => by
    refine codeAny_call_builtin slc_slot.plain slc_entry (slc_slot.check _ _ _ _ _ _ _ _ t (slc_args _ _) ?_)
    obtain ⟨h, g, d, k, os⟩ := z
    have d0 := descr ⟨h, g, d, k, os⟩
    have b1 := slc_find
    have b2 := F.typeOf_object_class
    have b3 := F.slot_gs_get.lookup
    have b4 := F.slot_gs_set.lookup
    repeat (any_goals (first | assumption | wp_step))
    refine way t ?_
    repeat (any_goals (first | assumption | wp_step))
  have look : ∀ {B : Around} {tk : Tok} {R : Value → Shared → Prop} {E' : Value → Shared → Prop} {z : Shared}, z.TypeIs (.ref a) "slice" → R (.type "slice") z → wpAny (model prog w) B (getAttrBy (.ref a) (.str "__class__" tk) false) R E' z := fun {B tk R E' z} t r => by
    obtain ⟨h, g, d, k, os⟩ := z
    have c1 := slc_slot.lookup
    have c2 := slc_slot.bind (.ref a)
    repeat (any_goals (first | assumption | wp_step))
    refine road t ?_
    repeat (any_goals (first | assumption | wp_step))
  obtain ⟨h, g, d, k, os⟩ := s
  have t0 : ∀ n, (⟨h, g, d, n, os⟩ : Shared).TypeIs (.ref a) "slice" := fun _ => ty
  unfold getAttr? getAttrBy?
  repeat (any_goals (first | assumption | with_reducible apply look (t0 _) | wp_step))
end PDS
namespace PD
open PySem PySem.Spec PyProof.Rows L2 PDS
theorem slcO_of {h : Heap} {a : Addr} {vl vu vs : Value} {lo hi st : Option Int} (i : IsSlc h a vl vu vs) (pl : IsPart vl lo) (pu : IsPart vu hi) (ps : IsPart vs st) : slcO a lo hi st h := by
  obtain ⟨o, h1, h2, h3⟩ := i
  exact ⟨o, vl, vu, vs, h1, h2, h3, pl, pu, ps⟩
theorem slcO_is {h : Heap} {a : Addr} {lo hi st : Option Int} (i : slcO a lo hi st h) : ∃ vl vu vs, IsSlc h a vl vu vs ∧ IsPart vl lo ∧ IsPart vu hi ∧ IsPart vs st := by
  obtain ⟨o, vl, vu, vs, h1, h2, h3, pl, pu, ps⟩ := i
  exact ⟨vl, vu, vs, ⟨o, h1, h2, h3⟩, pl, pu, ps⟩
/-- a part of a slice: None or a number -/
def PartD (d : D) (o : Option Int) : Prop := (d = .non ∧ o = none) ∨ ∃ i, d = .int i ∧ o = some i
def ep (Γ : Ct) (e : Option Expr) (δ : Dl) (μ : Mu) (Q : Option Int → Mu → Prop) : Prop := match e with
  | none => Q none μ
  | some e => ed Γ e δ μ fun d μ' => ∃ o, PartD d o ∧ Q o μ'
section
variable {Γ : Ct} {δ : Dl} {μ : Mu} {Q : D → Mu → Prop} {pos p2 : Pos} {lo hi st : Option Expr} {e : Expr}
theorem ep_run {o : Option Expr} {Q : Option Int → Mu → Prop} (h : ep Γ o δ μ Q) {F : Hp} {σ : L2.St} {H : Hp} (a : At Γ F δ μ σ H) {pins : List (Addr × Obj)} {s : Shared} (I : Inv Γ.X pins σ H s) {R : Value → Shared → Prop}
    (k : ∀ u s' H' F' μ' i, Inv Γ.X pins σ H' s' → Same F F' → At Γ F' δ μ' σ H' → IsPart u i → Q i μ' → R u s') : wpAny (model Γ.X.prog Γ.X.w) Γ.X.A (evalPart o Γ.X.env) R Γ.X.xe s := by
  cases o with
  | none => rw [evalPart_none]; exact wpAny_pure (k _ _ H F μ none I (Same.refl F) a .none h)
  | some e =>
    rw [evalPart_some]
    refine thn (h F σ H a pins s I) fun u s1 ⟨v, H1, I1, rv, F1, d, μ1, s1', a1, r1, o, hp, q⟩ => ?_
    rcases hp with ⟨rfl, rfl⟩ | ⟨i, rfl, rfl⟩
    · rw [dpN r1] at rv
      cases rv
      exact k _ _ H1 F1 μ1 none I1 s1' a1 .none q
    · rw [dpI r1] at rv
      obtain ⟨t, rfl⟩ := rv
      exact k _ _ H1 F1 μ1 (some i) I1 s1' a1 (.int i t) q
/-- lo:hi:st, as a thing -/
theorem ed_slc3 (h : ep Γ lo δ μ fun l μ1 => ep Γ hi δ μ1 fun u μ2 => ep Γ st δ μ2 fun t μ3 => Q (.slc l u t) μ3) : ed Γ (.Slice lo hi st p2) δ μ Q := fun F σ H a pins s I => by
  refine wpAny_Slice (ep_run h a I fun vl s1 H1 F1 μ1 l I1 e1 a1 pl h1 => ep_run h1 a1 I1 fun vu s2 H2 F2 μ2 u I2 e2 a2 pu h2 => ep_run h2 a2 I2 fun vs s3 H3 F3 μ3 t I3 e3 a3 ps q => ?_)
  have hn := I3.hok.fresh (Nat.le_refl s3.heap.objs.size)
  have ok : ObjOk Γ.X.prog Γ.X.w (upd H3 s3.heap.objs.size (.ext (slcO s3.heap.objs.size l u t))) (s3.heap.push { cls := .type "slice", data := .fields #[vl, vu, vs] }) s3.heap.objs.size (.ext (slcO s3.heap.objs.size l u t)) :=
    ⟨slcO_of ⟨_, Heap.get?_push_size _ rfl, rfl, rfl⟩ pl pu ps, ⟨_, Heap.get?_push_size _ rfl⟩, fun h1 h2 ⟨o, vl, vu, vs, g1, g2⟩ k => ⟨o, vl, vu, vs, k _ g1, g2⟩⟩
  refine ⟨.ref s3.heap.objs.size, _, I3.laid (t' := s3.toks) (fun _ _ q => Heap.get?_push_of_some _ q) (Nat.le_refl _) ok, rfl, ?_⟩
  have z : PostE Γ F3 δ σ Q (.ref s3.heap.objs.size) (upd H3 s3.heap.objs.size (.ext (slcO s3.heap.objs.size l u t))) := PostE.new a3 hn (by rw [Dp]; exact ⟨_, rfl, upd_same⟩) q
  exact PostE.up ((e1.trans e2).trans e3) z
end
/-- what stands behind a slice datum -/
theorem slc_run {Γ : Ct} {F H : Hp} {δ : Dl} {μ : Mu} {σ σ' : L2.St} {pins : List (Addr × Obj)} {s : Shared} {l u t : Option Int} {v : V} {w : Value} (a : At Γ F δ μ σ H) (I : Inv Γ.X pins σ' H s) (r : Dp Γ.X.K F (.slc l u t) v) (rv : RelV v w) :
    ∃ sl vl vu vs, w = .ref sl ∧ IsSlc s.heap sl vl vu vs ∧ IsPart vl l ∧ IsPart vu u ∧ IsPart vs t := by
  rw [Dp] at r
  obtain ⟨sl, rfl, h1⟩ := r
  cases rv
  obtain ⟨h2, _, _⟩ := (show ObjOk Γ.X.prog Γ.X.w H s.heap sl (.ext (slcO sl l u t)) from I.hok sl _ (a.sx.sub _ _ h1))
  obtain ⟨vl, vu, vs, i, p1, p2, p3⟩ := slcO_is h2
  exact ⟨sl, vl, vu, vs, rfl, i, p1, p2, p3⟩
theorem kitx_slice {K : PySem.W.Frag} {a : Addr} : PySem.W.KitX K (.ref a) (.type "slice") (PySem.W.KitAt a "slice") := PySem.W.kitx_of PySem.W.kitAt_ty fun p k => slc_class p k
section
variable {Γ : Ct} {δ : Dl} {μ : Mu} {Q : D → Mu → Prop} {pos : Pos} {e i : Expr}
/-- isinstance(s, C), s a slice -/
theorem cld_isiS {l u t : Option Int} {n : String} {b : Bool} (hk : PySem.W.kitOne Γ.X.K (.type "slice") (.type n) = some b) (q : Q (.bl b) μ) : cld Γ (.builtin "isinstance") [.slc l u t, .ty n] δ μ Q := fun F σ H vs a r0 pins s σ' us I rs => by
  obtain ⟨v1, v2, rfl, r1, r2⟩ := r0.two
  cases rs with
  | cons q1 rs =>
    cases rs with
    | cons q2 rs =>
      cases rs
      rw [Dp] at r2
      subst r2
      cases q2
      obtain ⟨sl, vl, vu, vs, rfl, ⟨o, h1, h2, h3⟩, _⟩ := slc_run a I r1 q1
      exact PySem.W.kia_one kitx_slice I.kIn ⟨o, h1, h2⟩ hk (fun z => nomatch z) fun tk => ⟨.bl b, H, I.tok tk, rfl, PostE.here a (by rw [Dp]) q⟩
theorem vals_fm {xs : List V} {ys : List Value} (r : Vals xs ys) : ∀ ps : List Nat, Vals (ps.filterMap (xs[·]?)) (ps.filterMap (ys[·]?))
  | [] => .nil
  | i :: ps => by
    have ih := vals_fm r ps
    rw [List.filterMap_cons, List.filterMap_cons]
    cases e : xs[i]? with
    | none =>
      have : ys[i]? = none := List.getElem?_eq_none (by rw [← r.length]; exact List.getElem?_eq_none_iff.mp e)
      rw [this]; exact ih
    | some v =>
      obtain ⟨u, hu, rv⟩ := r.get e
      rw [hu]; exact .cons rv ih
theorem dps_fm {K : PySem.W.Frag} {F : Hp} {xs : List D} {ys : List V} (r : Dps K F xs ys) : ∀ ps : List Nat, Dps K F (ps.filterMap (xs[·]?)) (ps.filterMap (ys[·]?))
  | [] => Dps.nil
  | i :: ps => by
    have ih := dps_fm r ps
    rw [List.filterMap_cons, List.filterMap_cons]
    cases e : xs[i]? with
    | none =>
      have : ys[i]? = none := List.getElem?_eq_none (by rw [← r.length]; exact List.getElem?_eq_none_iff.mp e)
      rw [this]; exact ih
    | some v =>
      obtain ⟨u, hu, rv⟩ := r.get e
      rw [hu]; exact Dps.cons rv ih
/-- t[s], t a tuple, s a slice -/
theorem getS {F H : Hp} {σ σ' : L2.St} {pins : List (Addr × Obj)} {s : Shared} {xs : List D} {l u t : Option Int} {v1 v2 : V} {w1 w2 : Value} (a : At Γ F δ μ σ H) (I : Inv Γ.X pins σ' H s) (r1 : Dp Γ.X.K F (.tup xs) v1) (q1 : RelV v1 w1) (r2 : Dp Γ.X.K F (.slc l u t) v2) (q2 : RelV v2 w2)
    (h0 : stepOf t ≠ 0) (hz : (pick xs l u t).length ≤ sizeLine) (q : Q (.tup (pick xs l u t)) μ) : s.TypeIs w1 "tuple" ∧ wpAny (model Γ.X.prog Γ.X.w) Γ.X.A (getItem w1 w2) (EP Γ.X pins σ' (PostE Γ F δ σ Q)) Γ.X.xe s := by
  obtain ⟨sl, vl, vu, vs, rfl, hs, p1, p2, p3⟩ := slc_run a I r2 q2
  obtain ⟨b, zs, rfl, h1, h2⟩ := dpT r1
  cases q1
  obtain ⟨its, rz, ht, hzs⟩ := I.tuple (Same.sqT a.sx.sub h1)
  have hlen : zs.length = xs.length := h2.length.symm
  have hli : its.length = zs.length := rz.length.symm
  have hpz : pick zs l u t = (placesOf l u t xs.length).filterMap (zs[·]?) := by unfold pick; rw [hlen]
  have hpi : pick its l u t = (placesOf l u t xs.length).filterMap (its[·]?) := by unfold pick; rw [hli, hlen]
  have vz : Vals (pick zs l u t) (pick its l u t) := by rw [hpz, hpi]; exact vals_fm rz _
  have dz : Dps Γ.X.K F (pick xs l u t) (pick zs l u t) := by rw [hpz]; exact dps_fm h2 _
  have hzl : (pick zs l u t).length = (pick xs l u t).length := dz.length.symm
  refine ⟨ht.typeIs, getItem_tuple_any ht hs p1 p2 p3 h0 (fun hsame => ?_) ?_ (by show (pick its l u t).length ≤ _; rw [← vz.length, hzl]; exact hz)⟩
  · have hx : pick xs l u t = xs := hsame xs (by rw [List.size_toArray]; omega)
    refine ⟨.ref b, H, I, rfl, PostE.here a (dpt h1 h2) ?_⟩
    rw [← hx]; exact q
  · have hn := I.hok.fresh (Nat.le_refl s.heap.objs.size)
    refine ⟨.ref s.heap.objs.size, _, I.laid (t' := s.toks) (o := .tup (pick zs l u t)) (fun _ _ q => Heap.get?_push_of_some _ q) (Nat.le_refl _) ⟨by rw [hzl]; exact hz, _, vz, IsTup.new _ _⟩, rfl, ?_⟩
    have sF := same_upd (o := HO.tup (pick zs l u t)) (a.sx.sub.free hn)
    exact PostE.new a hn (dpt (.inl (.inl upd_same)) (Dps.mono sF dz)) q
theorem ixd_slc {xs : List D} {l u t : Option Int} (h0 : stepOf t ≠ 0) (hz : (pick xs l u t).length ≤ sizeLine) (q : Q (.tup (pick xs l u t)) μ) : ixd Γ (.tup xs) (.slc l u t) δ μ Q := fun F σ H vx vy a r1 r2 value slice pins s σ' v u I q1 q2 hs => by
  obtain ⟨ty, g⟩ := getS (Q := Q) a I r1 q1 r2 q2 h0 hz q
  exact tail_any ty PyProof.Rows.slot_tuple_getitem.lookup g hs
end
end PD
/-! PD42: own [ ] with slices. -/
namespace PD
open PySem PySem.Spec PyProof.Rows L2 PDS
section
variable {Γ : Ct} {δ : Dl} {μ : Mu} {Q : D → Mu → Prop} {k j : Nat} {f C : Addr} {sp : SpD}
/-- a, b = xs, a list -/
theorem gd_lst {es : List Expr} {n0 : Nat} {ds : List D} {n : Nat} {pos : Pos} {Q : Dl → Mu → Prop} (hc : Γ.X.calm = true) (h : ds.length = n ∧ gds Γ es ds δ μ Q) (hn : (assignEach es Γ.X.env).length = n := by rfl) (hst : (assignEach es Γ.X.env).findIdx? (·.1) = none := by rfl) :
    gd Γ (.Tuple es n0 pos) (.lst ds) δ μ Q := fun F σ H v a r => by
  obtain ⟨p, vs, rfl, hq, r⟩ := dpL r
  exact wg_of (pg_lst hc pgs_wgs hn hst) ⟨p, vs, rfl, .inl (.inl (a.sx.sub _ _ hq)), by rw [← r.length]; exact h.1, h.2 F σ H vs a r⟩
end
/-! ### what a slice takes -/
theorem pick_map {α β : Type} (f : α → β) (xs : List α) (l u t : Option Int) : pick (xs.map f) l u t = (pick xs l u t).map f := by
  unfold pick
  rw [List.length_map]
  generalize placesOf l u t xs.length = ps
  induction ps with
  | nil => rfl
  | cons i ps ih =>
    rw [List.filterMap_cons, List.filterMap_cons, List.getElem?_map]
    cases xs[i]? with
    | none => exact ih
    | some x => rw [ih]; rfl
theorem pick_mem {α : Type} {xs : List α} {l u t : Option Int} {x : α} (h : x ∈ pick xs l u t) : x ∈ xs := by
  unfold pick at h
  obtain ⟨i, _, hi⟩ := List.mem_filterMap.mp h
  exact List.mem_of_getElem? hi
theorem places_le (lo hi n c : Int) (h : c ≠ 0) (h1 : 0 < c → 0 ≤ lo ∧ hi ≤ n) (h2 : c < 0 → lo ≤ n - 1 ∧ -1 ≤ hi) (hn : 0 ≤ n) : (Builtin.Slice.slicePlaces lo hi c : Int) ≤ n := by
  unfold Builtin.Slice.slicePlaces
  by_cases hc : c > 0
  · rw [if_pos hc]
    obtain ⟨a, b⟩ := h1 hc
    split
    · rename_i hlt
      have := Int.ediv_le_self c (a := hi - lo - 1) (by omega)
      have h0 := Int.ediv_nonneg (a := hi - lo - 1) (b := c) (by omega) (by omega)
      omega
    · simp; omega
  · rw [if_neg hc]
    obtain ⟨a, b⟩ := h2 (by omega)
    split
    · rename_i hlt
      have := Int.ediv_le_self (-c) (a := lo - hi - 1) (by omega)
      have h0 := Int.ediv_nonneg (a := lo - hi - 1) (b := -c) (by omega) (by omega)
      omega
    · simp; omega
theorem pick_len {α : Type} (xs : List α) {l u t : Option Int} (h : stepOf t ≠ 0) : (pick xs l u t).length ≤ xs.length := by
  unfold pick
  refine Nat.le_trans (List.length_filterMap_le _ _) ?_
  unfold placesOf
  rw [List.length_map, List.length_range]
  have := places_le (Builtin.Slice.sliceAdjust l u (stepOf t) (xs.length : Int)).1 (Builtin.Slice.sliceAdjust l u (stepOf t) (xs.length : Int)).2 xs.length (stepOf t) h (fun hc => ?_) (fun hc => ?_) (by omega)
  · omega
  · unfold Builtin.Slice.sliceAdjust
    have hc' : ¬ stepOf t < 0 := by omega
    dsimp only
    simp only [if_neg hc']
    constructor
    · cases l with
      | none => exact Int.le_refl _
      | some v => dsimp only; split <;> omega
    · cases u with
      | none => exact Int.le_refl _
      | some v => dsimp only; split <;> omega
  · unfold Builtin.Slice.sliceAdjust
    dsimp only
    simp only [if_pos hc]
    constructor
    · cases l with
      | none => exact Int.le_refl _
      | some v => dsimp only; split <;> omega
    · cases u with
      | none => exact Int.le_refl _
      | some v => dsimp only; split <;> omega
end PD
/-! PD43: match on a text, with texts and _ as patterns. -/
namespace PD
open PySem PySem.Spec PyProof.Rows L2
end PD
/-! PD44: instances that stay owned. -/
namespace PD
open PySem PySem.Spec PyProof.Rows L2
end PD
/-! PD45: o.f op= e, o owned. -/
namespace PD
open PySem PySem.Spec PyProof.Rows L2
end PD
/-! PD46: list(d.values()), list(d.items()). -/
namespace PD
open PySem PySem.Spec PyProof.Rows L2
end PD
/-! PD47: cells in another order. -/
namespace PD
end PD
/-! PD48: a call of an own thing that has __call__. -/
namespace PD
open PySem PySem.Spec PyProof.Rows L2
end PD
/-! PD49: a text no times or once. -/
namespace PD
open PySem PySem.Spec PyProof.Rows L2
end PD
/-! PD50: a comprehension without a condition: as many things as there were. -/
namespace PD
open PySem PySem.Spec PyProof.Rows L2
section
variable {Γ : Ct} {elt tg iter : Expr} {ifs : List Expr} {scope : Scope} {vs : List Nat} {δ : Dl} {μ : Mu} {Q : List D → Mu → Prop}
theorem lcd_allN (W : Mu → Prop) (R : D → Prop) (h : eid Γ tg iter δ μ fun ds S μ1 => ds.length ≤ 1000000 ∧ W μ1 ∧ (∀ μ', W μ' → S μ') ∧
      (∀ d ∈ ds, ∀ μ', W μ' → allB Γ scope fun Γb => gv Γb tg d vs (wipeD δ vs) μ' fun δ2 μ2 => allB Γ scope fun Γc => eif Γc ifs δ2 μ2 fun b μ3 => b = true ∧ allB Γ scope fun Γd => ed Γd elt δ2 μ3 fun r μ4 => R r ∧ W μ4) ∧
      ∀ acc μ', (∀ r ∈ acc, R r) → acc.length = ds.length → W μ' → Q acc μ') : lcd Γ elt tg iter ifs scope vs δ μ Q := fun F σ H a => wi_mono (h F σ H a) fun J H1 ⟨F1, ds, S, μ1, s1, a1, ok, hz, hW, hS, hb, hq⟩ => by
  refine ⟨F1, ds, S, μ1, s1, a1, ok, hz, fun i acc μ' => (∀ r ∈ acc, R r) ∧ acc.length = i ∧ W μ', ⟨fun _ z => (List.not_mem_nil z).elim, rfl, hW⟩, fun i acc μ' _ z => ⟨hS μ' z.2.2, Nat.le_of_eq z.2.1⟩, ?_, fun acc μ' z => hq acc μ' z.1 z.2.1 z.2.2⟩
  rintro i d acc μ' hd ⟨z1, z2, z3⟩
  intro s H C cl fp F0 μ0 H0 F2 σ2 H2 v a2 r2
  refine wg_mono (hb d (List.mem_of_getElem? hd) μ' z3 s H C cl fp F0 μ0 H0 F2 σ2 H2 v a2 r2) fun σ3 H3 ⟨w3, F3, δ3, μ3, s3, a3, q3⟩ => ⟨w3, F3, δ3, μ3, s3, a3, ?_⟩
  intro s' H' C' cl' fp' F0' μ0' H0'
  have key : ∀ {b : Bool} {μ4 : Mu}, (b = true ∧ allB Γ scope fun Γd => ed Γd elt δ3 μ4 fun r μ5 => R r ∧ W μ5) →
      if b = true then allB Γ scope fun Γd => ed Γd elt δ3 μ4 fun r μ5 => (∀ r' ∈ acc ++ [r], R r') ∧ (acc ++ [r]).length = i + 1 ∧ W μ5 else (∀ r' ∈ acc, R r') ∧ acc.length = i + 1 ∧ W μ4 := by
    rintro b μ4 ⟨rfl, z⟩
    intro s2 H2' C2 cl2 fp2 F02 μ02 H02 F5 σ5 H5 a5
    refine we_mono (z s2 H2' C2 cl2 fp2 F02 μ02 H02 F5 σ5 H5 a5) fun v' H6 ⟨F6, r, μ6, s6, a6, r6, q1, q2⟩ => ⟨F6, r, μ6, s6, a6, r6, fun r' hr' => ?_, by rw [List.length_append, z2]; rfl, q2⟩
    rcases List.mem_append.mp hr' with e | e
    · exact z1 r' e
    · rw [List.mem_singleton.mp e]; exact q1
  have q4 := q3 s' H' C' cl' fp' F0' μ0' H0'
  match ifs, q4 with
  | [], q4 => exact key (b := true) (μ4 := μ3) q4
  | [c], q4 => exact fun F5 σ5 H5 a5 => wt_mono (q4 F5 σ5 H5 a5) fun b H6 ⟨F6, μ6, s6, a6, q6⟩ => ⟨F6, μ6, s6, a6, key q6⟩
end
end PD
/-! PD51: sorted(set(..)) of many ints with few members. -/
namespace PD
open PySem PySem.Spec PyProof.Rows L2
theorem nodup_le {α : Type} [DecidableEq α] : ∀ {l M : List α}, l.Nodup → (∀ x ∈ l, x ∈ M) → l.length ≤ M.length
  | [], _, _, _ => Nat.zero_le _
  | a :: l, M, h, hs => by
    obtain ⟨h1, h2⟩ := List.nodup_cons.mp h
    have h3 : l.length ≤ (M.erase a).length := nodup_le h2 fun x hx => (List.mem_erase_of_ne (show x ≠ a from fun e => h1 (by rw [← e]; exact hx))).mpr (hs x (List.mem_cons_of_mem _ hx))
    have h4 := List.length_erase_of_mem (hs a List.mem_cons_self)
    have h5 : 0 < M.length := List.length_pos_of_mem (hs a List.mem_cons_self)
    rw [List.length_cons]; omega
end PD
/-! PD52: a call of an own thing that has __call__, told by any expression. -/
namespace PD
open PySem PySem.Spec PyProof.Rows L2
end PD
/-! PD53: sorted of a list of texts, of ints. -/
namespace PD
open PySem PySem.Spec PyProof.Rows L2
/-! two ascending lists of the same texts are the same -/
end PD
/-! PD54: dict comprehensions. -/
namespace PD
open PySem PySem.Spec PyProof.Rows L2
section
variable {Γ : Ct} {kx vx tg iter : Expr} {ifs : List Expr} {scope : Scope} {own : List (Str × Nat)} {pos : Pos} {δ : Dl} {μ : Mu}
theorem KVd.mono {K : PySem.W.Frag} {F F' : Hp} {kvs : Dic} {gs : List (Key × V)} (h : KVd K F kvs gs) (s : Same F F') : KVd K F' kvs gs := kvd_of h.keys (h.vals.mono s)
structure DcAt (Γ : Ct) (F1 : Hp) (δ : Dl) (σ : L2.St) (Da : Addr) (acc : Dic) (μ : Mu) (H F : Hp) : Prop where
  sm : Same F1 F
  at_ : At Γ F δ μ σ H
  ls : ∃ gs, H Da = some (.dK gs) ∧ KVd Γ.X.K F acc gs
  f : F Da = none
  m : Da ∉ dom μ
theorem DcAt.step {F1 F F2 H H2 : Hp} {σ : L2.St} {Da : Addr} {acc : Dic} {μ μ2 : Mu} (L : DcAt Γ F1 δ σ Da acc μ H F) (st : Step F μ H F2 μ2 H2) (sx : Sx Γ.X.K F2 μ2 H2) : DcAt Γ F1 δ σ Da acc μ2 H2 F2 := by
  obtain ⟨vs, h1, h2⟩ := L.ls
  refine ⟨L.sm.trans st.ext, ⟨L.at_.st.trans st, sx, L.at_.fr.mono st.ext⟩, ⟨vs, st.keep _ _ h1 L.m, h2.mono st.ext⟩, ?_, fun hm => ?_⟩
  · cases e : F2 Da with
    | none => rfl
    | some o =>
      rcases st.new _ _ e L.f with q | q
      · rw [h1] at q; cases q
      · exact absurd q L.m
  · rcases st.cell _ hm with q | q
    · exact L.m q
    · rw [h1] at q; cases q
end
end PD
/-! PD55: what the top has written, looked at in pieces. -/
namespace PD
open PySem PySem.Spec PyProof.Rows L2 PySem.W HandSHeadRun
end PD
/-! PD56: zip of two lists, dict of pairs, == of dicts of ints, names two blocks deep. -/
namespace PD
open PySem PySem.Spec PyProof.Rows L2
/-! ### names two blocks deep -/
end PD
/-! PD57: d.update(another dict). -/
namespace PD
open PySem PySem.Spec PyProof.Rows L2
end PD
/-! PD58: x or y of None or a tuple with something in it. -/
namespace PD
open PySem PySem.Spec PyProof.Rows L2
end PD
/-! PD59: own `op=` by the class's own method. -/
namespace PD
open PySem PySem.Spec PyProof.Rows L2
end PD
/-! PD60: != of two sets of ints. -/
namespace PD
open PySem PySem.Spec PyProof.Rows L2
theorem entry_set_ne : entryFor table "set.__ne__" = some Builtin.«frozenset.__ne__» :=
  entryFor_alias (id' := "frozenset.__ne__") (by kernel_rfl) rfl (by decide +kernel) (by kernel_rfl)
section
variable {P : Program} {w : World} {A : Around} {E : Value → Shared → Prop} {s : Shared} {a b : Addr} {S : Int → Bool} {n m : Nat}
theorem size_of {Q : Nat → Shared → Prop} (R : SetR w s.heap a S n) (h : Q n s) : wpAny (model P w) A (Builtin.Frozenset.sizeOf a) Q E s := by
  obtain ⟨o, es, ep, t, ho, hx, hd, g, nd, hm, hb, hf, hn, _⟩ := R
  unfold Builtin.Frozenset.sizeOf
  refine wpAny_bind (wpAny_setEntries_of ho hd hf (wpAny_pure ?_))
  rw [hn]; exact h
theorem unseen {Q : List (Int × Value) → Shared → Prop} {o1 o2 : Obj} {es1 es2 : Array (Int × Value)} {ep1 ep2 : Nat} {t1 t2 : SetTable} (h1 : s.heap.get? a = some o1) (d1 : o1.data = .set es1 ep1 t1) (f1 : t1.fits es1.size = true) (g1 : ∀ e ∈ es1.toList, GoodE e)
    (h2 : s.heap.get? b = some o2) (d2 : o2.data = .set es2 ep2 t2) (f2 : t2.fits es2.size = true) (g2 : ∀ e ∈ es2.toList, GoodE e) (h : Q es1.toList s) : wpAny (model P w) A (Builtin.Frozenset.walkUnseen a b) Q E s := by
  unfold Builtin.Frozenset.walkUnseen
  refine wpAny_bind (wpAny_setEntries_of h1 d1 f1 ?_)
  refine wpAny_bind (wpAny_setEntries_of h2 d2 f2 ?_)
  refine wpAny_bind ?_
  have gg : ∀ e ∈ es1.toList ++ es2.toList, GoodE e := fun e he => (List.mem_append.mp he).elim (g1 e) (g2 e)
  refine wpAny_forIn_list _ (fun rest q s' => s' = s ∧ q = (none, ()) ∧ ∀ e ∈ rest, GoodE e) _ ?_ ?_ _ _ ⟨rfl, rfl, gg⟩
  · rintro ⟨h0, x⟩ rest q s' ⟨rfl, rfl, hg⟩
    obtain ⟨k, tk, hx, hh⟩ := hg _ List.mem_cons_self
    dsimp only at hx
    subst hx
    refine wpAny_bind (m := Builtin.Frozenset.quietEq _) ?_
    unfold Builtin.Frozenset.quietEq
    refine wpAny_pure ?_
    exact wpAny_pure ⟨rfl, rfl, fun e he => hg e (List.mem_cons_of_mem _ he)⟩
  · rintro q s' ⟨rfl, rfl, -⟩
    exact wpAny_pure h
theorem subset_of {id : String} {Q : Bool → Shared → Prop} {S' : Int → Bool} (R : SetR w s.heap a S n) (R' : SetR w s.heap b S' m) (hnm : n ≤ m) (hS : ∀ k, S k = true → S' k = true) (h : Q true s) : wpAny (model P w) A (Builtin.Frozenset.subsetOf id a b) Q E s := by
  have RR := R'.setOf (P := P)
  unfold Builtin.Frozenset.subsetOf
  refine wpAny_bind (size_of R (wpAny_bind (size_of R' ?_)))
  rw [if_neg (by omega)]
  obtain ⟨o1, es1, ep1, t1, h1, hx1, d1, g1, nd1, hm1, hb1, f1, hn1, _⟩ := R
  obtain ⟨o2, es2, ep2, t2, h2, hx2, d2, g2, nd2, hm2, hb2, f2, hn2, _⟩ := R'
  refine wpAny_bind (wpAny_setEpoch_of h1 d1 f1 ?_)
  refine wpAny_bind (unseen h1 d1 f1 g1 h2 d2 f2 g2 ?_)
  refine wpAny_bind ?_
  refine wpAny_forIn_list _ (fun rest q s' => s' = s ∧ q = (none, ()) ∧ ∀ e ∈ rest, e ∈ es1.toList) _ ?_ ?_ _ _ ⟨rfl, rfl, fun _ h => h⟩
  · rintro ⟨h0, x⟩ rest q s' ⟨rfl, rfl, hg⟩
    have he := hg _ List.mem_cons_self
    obtain ⟨k, tk, hx, hh⟩ := g1 _ he
    have hk : S k = true := (hm1 k).mpr (List.mem_map.mpr ⟨_, he, by unfold keyOf; rw [hx]⟩)
    dsimp only at hx hh
    subst hx hh
    refine wpAny_bind (wpAny_holding (wpAny_setFind_of (knd := intKind P w) (k := k) (intKind_is P w k tk) rfl RR fun r hr => ?_))
    rw [hS k hk] at hr
    cases r with
    | none => cases hr
    | some i =>
      refine wpAny_bind (m := Builtin.Frozenset.unchanged _ _ _) ?_
      unfold Builtin.Frozenset.unchanged
      refine wpAny_bind (wpAny_setEpoch_of h1 d1 f1 ?_)
      rw [if_neg (by simp)]
      exact wpAny_pure (wpAny_pure ⟨rfl, rfl, fun e he => hg e (List.mem_cons_of_mem _ he)⟩)
  · rintro q s' ⟨rfl, rfl, -⟩
    exact wpAny_pure h
theorem setR_count (R : SetR w s.heap a S n) (R' : SetR w s.heap b S m) : n = m := by
  obtain ⟨o1, es1, ep1, t1, h1, hx1, d1, g1, nd1, hm1, hb1, f1, hn1, _⟩ := R
  obtain ⟨o2, es2, ep2, t2, h2, hx2, d2, g2, nd2, hm2, hb2, f2, hn2, _⟩ := R'
  have p : (es1.toList.map keyOf).Perm (es2.toList.map keyOf) := (List.perm_ext_iff_of_nodup nd1 nd2).mpr fun k => (hm1 k).symm.trans (hm2 k)
  have := p.length_eq
  rw [List.length_map, List.length_map, Array.length_toList, Array.length_toList] at this
  omega
theorem SetR.typeIs' (R : SetR w s.heap a S n) : s.TypeIs (.ref a) "set" := by
  obtain ⟨o1, es1, ep1, t1, h1, hx1, d1, _⟩ := R
  exact ⟨o1, h1, hx1.1⟩
theorem ne_sets {Q : Value → Shared → Prop} (R : SetR w s.heap a S n) (R' : SetR w s.heap b S m) (hu : A.units < cLine) (h : Q (.bool false) s) : wpAny (model P w) A (compareOp .NotEq (.ref a) (.ref b)) Q E s := by
  have hnm := setR_count R R'
  subst hnm
  have T1 := SetR.typeIs' R
  have T2 := SetR.typeIs' R'
  refine wpAny_richCompare_same_room (op := .NotEq) T1 T2 PySem.F.slot_set_ne (wpAny_call_entry PySem.F.slot_set_ne T1 entry_set_ne ?_ (PySem.F.args_set_ne_2 _ _)) hu
  show wpAny _ _ (Builtin.Frozenset.slot1 "__ne__" ⟨[.ref a, .ref b], []⟩ >>= _) _ _ s
  refine wpAny_bind ?_
  show wpAny _ _ (pure (Value.ref a, Value.ref b)) _ _ s
  refine wpAny_pure ?_
  refine wpAny_bind (m := Builtin.Frozenset.isAnySet _) ?_
  unfold Builtin.Frozenset.isAnySet
  refine wpAny_bind (wpAny_isInstance (T := "set") T2 PySem.F.sub_set_set ?_)
  refine wpAny_pure ?_
  simp only [Bool.not_true, Bool.false_eq_true, if_false]
  refine wpAny_bind (wpAny_pure ?_)
  unfold Builtin.Frozenset.addrOf
  refine wpAny_bind (wpAny_pure ?_)
  refine wpAny_bind (size_of R (wpAny_bind (size_of R' ?_)))
  refine wpAny_bind ?_
  rw [if_neg (show ¬ (n != n) = true by simp)]
  refine wpAny_bind ?_
  refine wpAny_bind (wpAny_isInstance (T := "set") T1 PySem.F.sub_set_frozenset ?_)
  refine wpAny_pure ?_
  rw [if_neg Bool.false_ne_true]
  refine subset_of R R' (Nat.le_refl _) (fun _ h => h) ?_
  exact wpAny_pure ⟨_, rfl, (fun x => nomatch x), h⟩
end
/-! ### in the layer -/
/-- set(xs) != set(ys) of the same members -/
theorem op_neSets {X : Cx} (hu : X.A.units < cLine) : OpR X (compareOp .NotEq) fun x y H Q => ∃ p q S n m, x = .ref p ∧ y = .ref q ∧ H p = some (SetO X.w p S n) ∧ H q = some (SetO X.w q S m) ∧ Q (.bl false) H := by
  intro pins s σ H x y v u Q I rx ry h
  obtain ⟨p, q, S, n, m, rfl, rfl, e1, e2, z⟩ := h
  obtain rfl : v = Value.ref p := rx
  obtain rfl : u = Value.ref q := ry
  exact ne_sets (setO_get I e1) (setO_get I e2) hu (fin_bl I z rfl)
section
variable {Γ : Ct} {δ : Dl} {μ : Mu} {Q : D → Mu → Prop} {e e' : Expr} {p1 p2 p3 p4 p5 : Pos}
theorem et_neSets {Q : Bool → Mu → Prop} (hc : Γ.X.calm = true) (hu : Γ.X.A.units < cLine) (hm : Γ.X.mg "set" = none)
    (h : ed Γ e δ μ fun d μ1 => ∃ ns : List Int, d = .lst (ns.map .int) ∧ ns.length ≤ 1000 ∧ ed Γ e' δ μ1 fun d' μ2 => ∃ ns' : List Int, d' = .lst (ns'.map .int) ∧ ns'.length ≤ 1000 ∧ (∀ k, k ∈ ns ↔ k ∈ ns') ∧ Q false μ2)
    (hg : Gl Γ.X "set" := by rfl)
    (he : starEach [e] Γ.X.env = (false, eval e Γ.X.env) :: starEach [] Γ.X.env := by rfl) (hpl : (backTo p2 (starEach [] Γ.X.env)).any (·.1) = false := by rfl)
    (he' : starEach [e'] Γ.X.env = (false, eval e' Γ.X.env) :: starEach [] Γ.X.env := by rfl) (hpl' : (backTo p4 (starEach [] Γ.X.env)).any (·.1) = false := by rfl)
    (hb : behindInMarks .NotEq (.Call (.Name "set" p3) [e'] [] p4) = false := by with_unfolding_all rfl) :
    et Γ (.Compare (.Call (.Name "set" p1) [e] [] p2) [.NotEq] [.Call (.Name "set" p3) [e'] [] p4] p5) δ μ Q := fun F σ H a => by
  refine wt_of (pt_cmpR (op_neSets hu) (pe_callTy (cr_setLst hc) hg hm (by decide +kernel) (pa_cons pe_we pa_nil he) (by decide +kernel) (by decide +kernel) he hpl) (pe_callTy (cr_setLst hc) hg hm (by decide +kernel) (pa_cons pe_we pa_nil he') (by decide +kernel) (by decide +kernel) he' hpl') hb) ?_
  refine we_mono (h F σ H a) fun v H1 ⟨F1, d, μ1, s1, a1, r1, ns, e1, hn, q⟩ => ?_
  subst e1
  obtain ⟨l, vs, rfl, g1, g2⟩ := dpL r1
  rw [Dps.ints g2] at g1
  refine ⟨l, ns, rfl, .inl (.inl (a1.sx.sub _ _ g1)), by omega, fun p c hcl hp => ?_⟩
  have sp := same_upd (o := SetO Γ.X.w p (fun j => decide (j ∈ ns)) c) (a1.sx.sub.free hp)
  have a2 := a1.pers (SetO Γ.X.w p (fun j => decide (j ∈ ns)) c) hp
  refine we_mono (q _ _ _ a2) fun v' H2 ⟨F2, d', μ2, s2, a3, r2, ns', e2, hn', hk, z⟩ => ?_
  subst e2
  obtain ⟨l', vs', rfl, g1', g2'⟩ := dpL r2
  rw [Dps.ints g2'] at g1'
  refine ⟨l', ns', rfl, .inl (.inl (a3.sx.sub _ _ g1')), by omega, fun p' c' hcl' hp' => ?_⟩
  have a4 := a3.pers (SetO Γ.X.w p' (fun j => decide (j ∈ ns')) c') hp'
  have e3 : (fun j => decide (j ∈ ns')) = fun j => decide (j ∈ ns) := funext fun j => decide_eq_decide.mpr (hk j).symm
  have h3 := a4.sx.sub _ _ (same_upd (o := SetO Γ.X.w p' (fun j => decide (j ∈ ns')) c') (a3.sx.sub.free hp') _ _ (s2 _ _ (upd_same (H := F1) (a := p) (o := SetO Γ.X.w p (fun j => decide (j ∈ ns)) c))))
  refine ⟨p, p', _, c, c', rfl, rfl, h3, by rw [e3]; exact upd_same, ?_⟩
  exact ⟨false, rfl, _, _, (s1.trans sp).trans (s2.trans (same_upd (a3.sx.sub.free hp'))), a4, z⟩
end
end PD
/-! PD61: slices of a list that is still held. -/
namespace PD
open PySem PySem.Spec PyProof.Rows L2
end PD
namespace LW
open PySem PySem.Spec PyProof.Rows L2 PD
def top (i : Nat) : Stmt := PySem.Challenge.pw_joinsback_k12_whole_histories_and_their.main.body.getD i (.Pass ⟨0, 0, 0, 0⟩)
abbrev sInvalidText_init : Stmt := inClass (top 3) 0
abbrev sInvalidEvent_init : Stmt := inClass (top 4) 0
abbrev sNoEvent_init : Stmt := inClass (top 5) 0
abbrev sis_integer : Stmt := top 9
abbrev sis_sequence : Stmt := top 10
abbrev snumber_in : Stmt := top 11
abbrev sis_event : Stmt := top 14
abbrev sevent_text : Stmt := top 15
abbrev sevent_in : Stmt := top 16
abbrev srecords_of : Stmt := top 17
abbrev sHistory_init : Stmt := inClass (top 18) 0
abbrev sHistory_read : Stmt := inClass (top 18) 1
abbrev sHistory_records : Stmt := inClass (top 18) 2
abbrev sHistory_references : Stmt := inClass (top 18) 3
abbrev sHistory_len : Stmt := inClass (top 18) 5
abbrev sHistory_getitem : Stmt := inClass (top 18) 6
abbrev sHistory_add : Stmt := inClass (top 18) 8
abbrev sHistory_mul : Stmt := inClass (top 18) 9
abbrev sHistory_rmul : Stmt := inClass (top 18) 10
abbrev sHistory_le : Stmt := inClass (top 18) 11
abbrev sHistory_lt : Stmt := inClass (top 18) 12
abbrev sHistory_ge : Stmt := inClass (top 18) 13
abbrev sHistory_gt : Stmt := inClass (top 18) 14
abbrev sHistory_eq : Stmt := inClass (top 18) 15
abbrev sHistory_str : Stmt := inClass (top 18) 16
abbrev sdeal : Stmt := top 20
abbrev sdraw : Stmt := top 21
abbrev spick : Stmt := top 22
abbrev sevent : Stmt := top 23
abbrev sevents : Stmt := top 24
abbrev slaw : Stmt := top 25
def dd (at_ : Str × Option Str) (x q : Str) (st : Stmt) (dfl : List He.Dv) (kwd : List (Str × He.Dv)) : He.DefD := ⟨at_, x, q, defArgs st, defBody st, defScope st, dfl, kwd⟩
def dInvalidText_init : He.DefD := dd ("InvalidText", some "__init__") "__init__" "InvalidText.__init__" sInvalidText_init [] []
def dInvalidEvent_init : He.DefD := dd ("InvalidEvent", some "__init__") "__init__" "InvalidEvent.__init__" sInvalidEvent_init [] []
def dNoEvent_init : He.DefD := dd ("NoEvent", some "__init__") "__init__" "NoEvent.__init__" sNoEvent_init [] []
def dis_integer : He.DefD := dd ("is_integer", none) "is_integer" "is_integer" sis_integer [] []
def dis_sequence : He.DefD := dd ("is_sequence", none) "is_sequence" "is_sequence" sis_sequence [] []
def dnumber_in : He.DefD := dd ("number_in", none) "number_in" "number_in" snumber_in [] []
def dis_event : He.DefD := dd ("is_event", none) "is_event" "is_event" sis_event [] []
def devent_text : He.DefD := dd ("event_text", none) "event_text" "event_text" sevent_text [] []
def devent_in : He.DefD := dd ("event_in", none) "event_in" "event_in" sevent_in [] []
def drecords_of : He.DefD := dd ("records_of", none) "records_of" "records_of" srecords_of [] []
def dHistory_init : He.DefD := dd ("History", some "__init__") "__init__" "History.__init__" sHistory_init [.adr (He.dflAt ("History", some "__init__") 0)] []
def dHistory_len : He.DefD := dd ("History", some "__len__") "__len__" "History.__len__" sHistory_len [] []
def dHistory_getitem : He.DefD := dd ("History", some "__getitem__") "__getitem__" "History.__getitem__" sHistory_getitem [] []
def dHistory_add : He.DefD := dd ("History", some "__add__") "__add__" "History.__add__" sHistory_add [] []
def dHistory_mul : He.DefD := dd ("History", some "__mul__") "__mul__" "History.__mul__" sHistory_mul [] []
def dHistory_rmul : He.DefD := dd ("History", some "__rmul__") "__rmul__" "History.__rmul__" sHistory_rmul [] []
def dHistory_le : He.DefD := dd ("History", some "__le__") "__le__" "History.__le__" sHistory_le [] []
def dHistory_lt : He.DefD := dd ("History", some "__lt__") "__lt__" "History.__lt__" sHistory_lt [] []
def dHistory_ge : He.DefD := dd ("History", some "__ge__") "__ge__" "History.__ge__" sHistory_ge [] []
def dHistory_gt : He.DefD := dd ("History", some "__gt__") "__gt__" "History.__gt__" sHistory_gt [] []
def dHistory_eq : He.DefD := dd ("History", some "__eq__") "__eq__" "History.__eq__" sHistory_eq [] []
def dHistory_str : He.DefD := dd ("History", some "__str__") "__str__" "History.__str__" sHistory_str [] []
def ddeal : He.DefD := dd ("_law_deal", none) "_law_deal" "_law_deal" sdeal [] []
def ddraw : He.DefD := dd ("_law_draw", none) "_law_draw" "_law_draw" sdraw [] []
def dpick : He.DefD := dd ("_law_pick", none) "_law_pick" "_law_pick" spick [] []
def devent : He.DefD := dd ("_law_event", none) "_law_event" "_law_event" sevent [] []
def devents : He.DefD := dd ("_law_events", none) "_law_events" "_law_events" sevents [] []
def dlaw : He.DefD := dd ("law", none) "law" "law" slaw [] []
def dxHistory_read : He5.DefA := ⟨fun K => He5.wf K (He.ga K "History") "classmethod" "read", "read", "History.read", defArgs sHistory_read, defBody sHistory_read, defScope sHistory_read, [], []⟩
def dxHistory_records : He5.DefA := ⟨fun K => pf K (He.ga K "History") "records", "records", "History.records", defArgs sHistory_records, defBody sHistory_records, defScope sHistory_records, [], []⟩
def dxHistory_references : He5.DefA := ⟨fun K => pf K (He.ga K "History") "references", "references", "History.references", defArgs sHistory_references, defBody sHistory_references, defScope sHistory_references, [], []⟩
def fx : List He5.DefA := [dxHistory_read, dxHistory_records, dxHistory_references]
def fn : List He.DefD := [dInvalidText_init, dInvalidEvent_init, dNoEvent_init, dis_integer, dis_sequence, dnumber_in, dis_event, devent_text, devent_in, drecords_of, dHistory_init, dHistory_len, dHistory_getitem, dHistory_add, dHistory_mul, dHistory_rmul, dHistory_le, dHistory_lt, dHistory_ge, dHistory_gt, dHistory_eq, dHistory_str, ddeal, ddraw, dpick, devent, devents, dlaw]
def fa0 : List He.Fa := [.str "FIGURES" "0123456789", .int "MOST_FIGURES" (7), .glo "InvalidText", .glo "InvalidEvent", .glo "NoEvent", .glo "KINDS", .glo "is_integer", .glo "is_sequence", .glo "number_in", .glo "is_event", .glo "event_text", .glo "event_in"]
def fa1 : List He.Fa := [.glo "records_of", .glo "History", .glo "_law_deal", .glo "_law_draw", .glo "_law_pick", .glo "_law_event", .glo "_law_events", .glo "law", .free "abs", .free "all", .free "bool", .free "enumerate"]
def fa2 : List He.Fa := [.free "int", .free "isinstance", .free "len", .free "list", .free "range", .free "set", .free "sorted", .free "str", .free "tuple", .cls "History", .noat "History" "events", .mkr "History"]
def fa3 : List He.Fa := [.meth "History" "__len__", .meth "History" "__getitem__", .meth "History" "__add__", .meth "History" "__mul__", .meth "History" "__rmul__", .meth "History" "__le__", .meth "History" "__lt__", .meth "History" "__gt__", .meth "History" "__eq__", .meth "History" "__str__"]
def fa : List He.Fa := fa0 ++ (fa1 ++ (fa2 ++ (fa3)))
def cst_KINDS : List Str := ["new", "join", "back", "sweep"]
def exs0 : List (PySem.W.Frag → Bool) := [fun K => tupAB K (He.ga K "KINDS") (strDv cst_KINDS), fun K => tupAB K (He.dflAt ("History", some "__init__") 0 K) [], fun K => clsTB K (He.ga K "History"), fun K => PySem.W.selfFirst K (He.ga K "History"), fun _ => true, fun K => intB K (He.ga K "History"), fun K => neB K (He.ga K "History"), fun K => oexgB "ValueError.__new__" tlVE K (He.ga K "InvalidText"), fun K => He.eqO (PySem.W.findIn K (.ref (He.ga K "InvalidText")) "at") (some none), fun K => He.eqO (PySem.W.findIn K (.ref (He.ga K "InvalidText")) "__init__") (some (some (.ref (He.ma K (He.ga K "InvalidText") "__init__")))), fun K => decide (PySem.W.typeIn K (.ref (He.ma K (He.ga K "InvalidText") "__init__")) = some (.type "function")), fun K => oexgB "ValueError.__new__" tlVE K (He.ga K "InvalidEvent")]
def exs1 : List (PySem.W.Frag → Bool) := [fun K => He.eqO (PySem.W.findIn K (.ref (He.ga K "InvalidEvent")) "at") (some none), fun K => He.eqO (PySem.W.findIn K (.ref (He.ga K "InvalidEvent")) "__init__") (some (some (.ref (He.ma K (He.ga K "InvalidEvent") "__init__")))), fun K => decide (PySem.W.typeIn K (.ref (He.ma K (He.ga K "InvalidEvent") "__init__")) = some (.type "function")), fun K => oexgB "IndexError.__new__" tlIE K (He.ga K "NoEvent"), fun K => He.eqO (PySem.W.findIn K (.ref (He.ga K "NoEvent")) "at") (some none), fun K => He.eqO (PySem.W.findIn K (.ref (He.ga K "NoEvent")) "__init__") (some (some (.ref (He.ma K (He.ga K "NoEvent") "__init__")))), fun K => decide (PySem.W.typeIn K (.ref (He.ma K (He.ga K "NoEvent") "__init__")) = some (.type "function")), fun K => cmB K (He.ga K "History") "read", fun K => prB K (He.ga K "History") "records", fun K => prB K (He.ga K "History") "references"]
def exs : List (PySem.W.Frag → Bool) := exs0 ++ (exs1)
def ex (K : PySem.W.Frag) : Bool := exs.all fun f => f K
def ts : List He.Tab := []
abbrev T0 (w : World) (K : PySem.W.Frag) (mg : Str → Option Value) : Prop := TXP fa fn fx ts ex w K mg
section
variable {w : World} {K : PySem.W.Frag} {mg : Str → Option Value} (T : T0 w K mg)
include T
theorem s_FIGURES : ∃ t, mg "FIGURES" = some (.str "0123456789" t) := T.cs 0 _ _ rfl
theorem i_MOST_FIGURES : ∃ t, mg "MOST_FIGURES" = some (.int (7) t) := T.ci 1 _ _ rfl
theorem g_InvalidText : mg "InvalidText" = some (.ref (He.ga K "InvalidText")) := T.g 2
theorem g_InvalidEvent : mg "InvalidEvent" = some (.ref (He.ga K "InvalidEvent")) := T.g 3
theorem g_NoEvent : mg "NoEvent" = some (.ref (He.ga K "NoEvent")) := T.g 4
theorem g_KINDS : mg "KINDS" = some (.ref (He.ga K "KINDS")) := T.g 5
theorem g_is_integer : mg "is_integer" = some (.ref (He.ga K "is_integer")) := T.g 6
theorem g_is_sequence : mg "is_sequence" = some (.ref (He.ga K "is_sequence")) := T.g 7
theorem g_number_in : mg "number_in" = some (.ref (He.ga K "number_in")) := T.g 8
theorem g_is_event : mg "is_event" = some (.ref (He.ga K "is_event")) := T.g 9
theorem g_event_text : mg "event_text" = some (.ref (He.ga K "event_text")) := T.g 10
theorem g_event_in : mg "event_in" = some (.ref (He.ga K "event_in")) := T.g 11
theorem g_records_of : mg "records_of" = some (.ref (He.ga K "records_of")) := T.g 12
theorem g_History : mg "History" = some (.ref (He.ga K "History")) := T.g 13
theorem g_deal : mg "_law_deal" = some (.ref (He.ga K "_law_deal")) := T.g 14
theorem g_draw : mg "_law_draw" = some (.ref (He.ga K "_law_draw")) := T.g 15
theorem g_pick : mg "_law_pick" = some (.ref (He.ga K "_law_pick")) := T.g 16
theorem g_event : mg "_law_event" = some (.ref (He.ga K "_law_event")) := T.g 17
theorem g_events : mg "_law_events" = some (.ref (He.ga K "_law_events")) := T.g 18
theorem g_law : mg "law" = some (.ref (He.ga K "law")) := T.g 19
theorem b_abs : mg "abs" = none := T.f 20
theorem b_all : mg "all" = none := T.f 21
theorem b_bool : mg "bool" = none := T.f 22
theorem b_enumerate : mg "enumerate" = none := T.f 23
theorem b_int : mg "int" = none := T.f 24
theorem b_isinstance : mg "isinstance" = none := T.f 25
theorem b_len : mg "len" = none := T.f 26
theorem b_list : mg "list" = none := T.f 27
theorem b_range : mg "range" = none := T.f 28
theorem b_set : mg "set" = none := T.f 29
theorem b_sorted : mg "sorted" = none := T.f 30
theorem b_str : mg "str" = none := T.f 31
theorem b_tuple : mg "tuple" = none := T.f 32
theorem c_History : Cls K (He.ga K "History") := He.cls_ok (T.a 33 (f := .cls "History"))
theorem n_History_events : NoAttr K (He.ga K "History") "events" := He.noat_ok (T.a 34 (f := .noat "History" "events"))
theorem k_History : Mk K (He.ga K "History") (He.ma K (He.ga K "History") "__init__") := He.mkr_ok (T.a 35 (f := .mkr "History"))
theorem m_History_len : Meth K (He.ga K "History") "__len__" (He.ma K (He.ga K "History") "__len__") := He.meth_ok (T.a 36 (f := .meth "History" "__len__"))
theorem m_History_getitem : Meth K (He.ga K "History") "__getitem__" (He.ma K (He.ga K "History") "__getitem__") := He.meth_ok (T.a 37 (f := .meth "History" "__getitem__"))
theorem m_History_add : Meth K (He.ga K "History") "__add__" (He.ma K (He.ga K "History") "__add__") := He.meth_ok (T.a 38 (f := .meth "History" "__add__"))
theorem m_History_mul : Meth K (He.ga K "History") "__mul__" (He.ma K (He.ga K "History") "__mul__") := He.meth_ok (T.a 39 (f := .meth "History" "__mul__"))
theorem m_History_rmul : Meth K (He.ga K "History") "__rmul__" (He.ma K (He.ga K "History") "__rmul__") := He.meth_ok (T.a 40 (f := .meth "History" "__rmul__"))
theorem m_History_le : Meth K (He.ga K "History") "__le__" (He.ma K (He.ga K "History") "__le__") := He.meth_ok (T.a 41 (f := .meth "History" "__le__"))
theorem m_History_lt : Meth K (He.ga K "History") "__lt__" (He.ma K (He.ga K "History") "__lt__") := He.meth_ok (T.a 42 (f := .meth "History" "__lt__"))
theorem m_History_gt : Meth K (He.ga K "History") "__gt__" (He.ma K (He.ga K "History") "__gt__") := He.meth_ok (T.a 43 (f := .meth "History" "__gt__"))
theorem m_History_eq : Meth K (He.ga K "History") "__eq__" (He.ma K (He.ga K "History") "__eq__") := He.meth_ok (T.a 44 (f := .meth "History" "__eq__"))
theorem m_History_str : Meth K (He.ga K "History") "__str__" (He.ma K (He.ga K "History") "__str__") := He.meth_ok (T.a 45 (f := .meth "History" "__str__"))
theorem t_KINDS : tupAB K (He.ga K "KINDS") (strDv cst_KINDS) = true := (allK (f := fun K => tupAB K (He.ga K "KINDS") (strDv cst_KINDS)) T.more 0)
theorem t_History_init_0 : tupAB K (He.dflAt ("History", some "__init__") 0 K) [] = true := (allK (f := fun K => tupAB K (He.dflAt ("History", some "__init__") 0 K) []) T.more 1)
theorem ct_History : ClsT K (He.ga K "History") := clsT_ok (c_History T) (allK (f := fun K => clsTB K (He.ga K "History")) T.more 2)
theorem sf_History : PySem.W.selfFirst K (He.ga K "History") = true := (allK (f := fun K => PySem.W.selfFirst K (He.ga K "History")) T.more 3)
theorem add_History : BinOwn K (He.ga K "History") (He.ma K (He.ga K "History") "__add__") "add" := binOwn_of (m_History_add T) (sf_History T)
theorem mul_History : BinInt K (He.ga K "History") (He.ma K (He.ga K "History") "__mul__") (He.ma K (He.ga K "History") "__rmul__") "mul" := binInt_of (m_History_mul T) (m_History_rmul T) (sf_History T) (allK (f := fun K => intB K (He.ga K "History")) T.more 5)
theorem ne_History : NeOwn K (He.ga K "History") (He.ma K (He.ga K "History") "__eq__") := neOwn_of (m_History_eq T) (allK (f := fun K => neB K (He.ga K "History")) T.more 6)
theorem xg_InvalidText : OexG "ValueError.__new__" tlVE K (He.ga K "InvalidText") := oexgB_ok (allK (f := fun K => oexgB "ValueError.__new__" tlVE K (He.ga K "InvalidText")) T.more 7)
theorem xn_InvalidText : PySem.W.findIn K (.ref (He.ga K "InvalidText")) "at" = some none := He.eqO_ok (allK (f := fun K => He.eqO (PySem.W.findIn K (.ref (He.ga K "InvalidText")) "at") (some none)) T.more 8)
theorem xi_InvalidText : PySem.W.findIn K (.ref (He.ga K "InvalidText")) "__init__" = some (some (.ref (He.ma K (He.ga K "InvalidText") "__init__"))) := He.eqO_ok (allK (f := fun K => He.eqO (PySem.W.findIn K (.ref (He.ga K "InvalidText")) "__init__") (some (some (.ref (He.ma K (He.ga K "InvalidText") "__init__"))))) T.more 9)
theorem xt_InvalidText : PySem.W.typeIn K (.ref (He.ma K (He.ga K "InvalidText") "__init__")) = some (.type "function") := of_decide_eq_true (allK (f := fun K => decide (PySem.W.typeIn K (.ref (He.ma K (He.ga K "InvalidText") "__init__")) = some (.type "function"))) T.more 10)
theorem xg_InvalidEvent : OexG "ValueError.__new__" tlVE K (He.ga K "InvalidEvent") := oexgB_ok (allK (f := fun K => oexgB "ValueError.__new__" tlVE K (He.ga K "InvalidEvent")) T.more 11)
theorem xn_InvalidEvent : PySem.W.findIn K (.ref (He.ga K "InvalidEvent")) "at" = some none := He.eqO_ok (allK (f := fun K => He.eqO (PySem.W.findIn K (.ref (He.ga K "InvalidEvent")) "at") (some none)) T.more 12)
theorem xi_InvalidEvent : PySem.W.findIn K (.ref (He.ga K "InvalidEvent")) "__init__" = some (some (.ref (He.ma K (He.ga K "InvalidEvent") "__init__"))) := He.eqO_ok (allK (f := fun K => He.eqO (PySem.W.findIn K (.ref (He.ga K "InvalidEvent")) "__init__") (some (some (.ref (He.ma K (He.ga K "InvalidEvent") "__init__"))))) T.more 13)
theorem xt_InvalidEvent : PySem.W.typeIn K (.ref (He.ma K (He.ga K "InvalidEvent") "__init__")) = some (.type "function") := of_decide_eq_true (allK (f := fun K => decide (PySem.W.typeIn K (.ref (He.ma K (He.ga K "InvalidEvent") "__init__")) = some (.type "function"))) T.more 14)
theorem xg_NoEvent : OexG "IndexError.__new__" tlIE K (He.ga K "NoEvent") := oexgB_ok (allK (f := fun K => oexgB "IndexError.__new__" tlIE K (He.ga K "NoEvent")) T.more 15)
theorem xn_NoEvent : PySem.W.findIn K (.ref (He.ga K "NoEvent")) "at" = some none := He.eqO_ok (allK (f := fun K => He.eqO (PySem.W.findIn K (.ref (He.ga K "NoEvent")) "at") (some none)) T.more 16)
theorem xi_NoEvent : PySem.W.findIn K (.ref (He.ga K "NoEvent")) "__init__" = some (some (.ref (He.ma K (He.ga K "NoEvent") "__init__"))) := He.eqO_ok (allK (f := fun K => He.eqO (PySem.W.findIn K (.ref (He.ga K "NoEvent")) "__init__") (some (some (.ref (He.ma K (He.ga K "NoEvent") "__init__"))))) T.more 17)
theorem xt_NoEvent : PySem.W.typeIn K (.ref (He.ma K (He.ga K "NoEvent") "__init__")) = some (.type "function") := of_decide_eq_true (allK (f := fun K => decide (PySem.W.typeIn K (.ref (He.ma K (He.ga K "NoEvent") "__init__")) = some (.type "function"))) T.more 18)
theorem cm_History_read : CmD K (He.ga K "History") "read" (He5.wf K (He.ga K "History") "classmethod" "read") := cmB_ok (allK (f := fun K => cmB K (He.ga K "History") "read") T.more 19)
theorem pr_History_records : PropOf K (He.ga K "History") "records" (He.ma K (He.ga K "History") "records") (pf K (He.ga K "History") "records") := prB_ok (allK (f := fun K => prB K (He.ga K "History") "records") T.more 20)
theorem pr_History_references : PropOf K (He.ga K "History") "references" (He.ma K (He.ga K "History") "references") (pf K (He.ga K "History") "references") := prB_ok (allK (f := fun K => prB K (He.ga K "History") "references") T.more 21)
theorem f_InvalidText_init : ∃ fd, FunD K "__init__" "InvalidText.__init__" (defArgs sInvalidText_init) (defBody sInvalidText_init) (defScope sInvalidText_init) (dInvalidText_init.dvs K) (dInvalidText_init.kws K) (He.fAd K dInvalidText_init.at_) fd := T.d 0 (d := dInvalidText_init)
theorem f_InvalidEvent_init : ∃ fd, FunD K "__init__" "InvalidEvent.__init__" (defArgs sInvalidEvent_init) (defBody sInvalidEvent_init) (defScope sInvalidEvent_init) (dInvalidEvent_init.dvs K) (dInvalidEvent_init.kws K) (He.fAd K dInvalidEvent_init.at_) fd := T.d 1 (d := dInvalidEvent_init)
theorem f_NoEvent_init : ∃ fd, FunD K "__init__" "NoEvent.__init__" (defArgs sNoEvent_init) (defBody sNoEvent_init) (defScope sNoEvent_init) (dNoEvent_init.dvs K) (dNoEvent_init.kws K) (He.fAd K dNoEvent_init.at_) fd := T.d 2 (d := dNoEvent_init)
theorem f_is_integer : ∃ fd, FunD K "is_integer" "is_integer" (defArgs sis_integer) (defBody sis_integer) (defScope sis_integer) (dis_integer.dvs K) (dis_integer.kws K) (He.fAd K dis_integer.at_) fd := T.d 3 (d := dis_integer)
theorem f_is_sequence : ∃ fd, FunD K "is_sequence" "is_sequence" (defArgs sis_sequence) (defBody sis_sequence) (defScope sis_sequence) (dis_sequence.dvs K) (dis_sequence.kws K) (He.fAd K dis_sequence.at_) fd := T.d 4 (d := dis_sequence)
theorem f_number_in : ∃ fd, FunD K "number_in" "number_in" (defArgs snumber_in) (defBody snumber_in) (defScope snumber_in) (dnumber_in.dvs K) (dnumber_in.kws K) (He.fAd K dnumber_in.at_) fd := T.d 5 (d := dnumber_in)
theorem f_is_event : ∃ fd, FunD K "is_event" "is_event" (defArgs sis_event) (defBody sis_event) (defScope sis_event) (dis_event.dvs K) (dis_event.kws K) (He.fAd K dis_event.at_) fd := T.d 6 (d := dis_event)
theorem f_event_text : ∃ fd, FunD K "event_text" "event_text" (defArgs sevent_text) (defBody sevent_text) (defScope sevent_text) (devent_text.dvs K) (devent_text.kws K) (He.fAd K devent_text.at_) fd := T.d 7 (d := devent_text)
theorem f_event_in : ∃ fd, FunD K "event_in" "event_in" (defArgs sevent_in) (defBody sevent_in) (defScope sevent_in) (devent_in.dvs K) (devent_in.kws K) (He.fAd K devent_in.at_) fd := T.d 8 (d := devent_in)
theorem f_records_of : ∃ fd, FunD K "records_of" "records_of" (defArgs srecords_of) (defBody srecords_of) (defScope srecords_of) (drecords_of.dvs K) (drecords_of.kws K) (He.fAd K drecords_of.at_) fd := T.d 9 (d := drecords_of)
theorem f_History_init : ∃ fd, FunD K "__init__" "History.__init__" (defArgs sHistory_init) (defBody sHistory_init) (defScope sHistory_init) (dHistory_init.dvs K) (dHistory_init.kws K) (He.fAd K dHistory_init.at_) fd := T.d 10 (d := dHistory_init)
theorem f_History_len : ∃ fd, FunD K "__len__" "History.__len__" (defArgs sHistory_len) (defBody sHistory_len) (defScope sHistory_len) (dHistory_len.dvs K) (dHistory_len.kws K) (He.fAd K dHistory_len.at_) fd := T.d 11 (d := dHistory_len)
theorem f_History_getitem : ∃ fd, FunD K "__getitem__" "History.__getitem__" (defArgs sHistory_getitem) (defBody sHistory_getitem) (defScope sHistory_getitem) (dHistory_getitem.dvs K) (dHistory_getitem.kws K) (He.fAd K dHistory_getitem.at_) fd := T.d 12 (d := dHistory_getitem)
theorem f_History_add : ∃ fd, FunD K "__add__" "History.__add__" (defArgs sHistory_add) (defBody sHistory_add) (defScope sHistory_add) (dHistory_add.dvs K) (dHistory_add.kws K) (He.fAd K dHistory_add.at_) fd := T.d 13 (d := dHistory_add)
theorem f_History_mul : ∃ fd, FunD K "__mul__" "History.__mul__" (defArgs sHistory_mul) (defBody sHistory_mul) (defScope sHistory_mul) (dHistory_mul.dvs K) (dHistory_mul.kws K) (He.fAd K dHistory_mul.at_) fd := T.d 14 (d := dHistory_mul)
theorem f_History_le : ∃ fd, FunD K "__le__" "History.__le__" (defArgs sHistory_le) (defBody sHistory_le) (defScope sHistory_le) (dHistory_le.dvs K) (dHistory_le.kws K) (He.fAd K dHistory_le.at_) fd := T.d 16 (d := dHistory_le)
theorem f_History_lt : ∃ fd, FunD K "__lt__" "History.__lt__" (defArgs sHistory_lt) (defBody sHistory_lt) (defScope sHistory_lt) (dHistory_lt.dvs K) (dHistory_lt.kws K) (He.fAd K dHistory_lt.at_) fd := T.d 17 (d := dHistory_lt)
theorem f_History_gt : ∃ fd, FunD K "__gt__" "History.__gt__" (defArgs sHistory_gt) (defBody sHistory_gt) (defScope sHistory_gt) (dHistory_gt.dvs K) (dHistory_gt.kws K) (He.fAd K dHistory_gt.at_) fd := T.d 19 (d := dHistory_gt)
theorem f_History_eq : ∃ fd, FunD K "__eq__" "History.__eq__" (defArgs sHistory_eq) (defBody sHistory_eq) (defScope sHistory_eq) (dHistory_eq.dvs K) (dHistory_eq.kws K) (He.fAd K dHistory_eq.at_) fd := T.d 20 (d := dHistory_eq)
theorem f_History_str : ∃ fd, FunD K "__str__" "History.__str__" (defArgs sHistory_str) (defBody sHistory_str) (defScope sHistory_str) (dHistory_str.dvs K) (dHistory_str.kws K) (He.fAd K dHistory_str.at_) fd := T.d 21 (d := dHistory_str)
theorem f_deal : ∃ fd, FunD K "_law_deal" "_law_deal" (defArgs sdeal) (defBody sdeal) (defScope sdeal) (ddeal.dvs K) (ddeal.kws K) (He.fAd K ddeal.at_) fd := T.d 22 (d := ddeal)
theorem f_draw : ∃ fd, FunD K "_law_draw" "_law_draw" (defArgs sdraw) (defBody sdraw) (defScope sdraw) (ddraw.dvs K) (ddraw.kws K) (He.fAd K ddraw.at_) fd := T.d 23 (d := ddraw)
theorem f_pick : ∃ fd, FunD K "_law_pick" "_law_pick" (defArgs spick) (defBody spick) (defScope spick) (dpick.dvs K) (dpick.kws K) (He.fAd K dpick.at_) fd := T.d 24 (d := dpick)
theorem f_event : ∃ fd, FunD K "_law_event" "_law_event" (defArgs sevent) (defBody sevent) (defScope sevent) (devent.dvs K) (devent.kws K) (He.fAd K devent.at_) fd := T.d 25 (d := devent)
theorem f_events : ∃ fd, FunD K "_law_events" "_law_events" (defArgs sevents) (defBody sevents) (defScope sevents) (devents.dvs K) (devents.kws K) (He.fAd K devents.at_) fd := T.d 26 (d := devents)
theorem f_law : ∃ fd, FunD K "law" "law" (defArgs slaw) (defBody slaw) (defScope slaw) (dlaw.dvs K) (dlaw.kws K) (He.fAd K dlaw.at_) fd := T.d 27 (d := dlaw)
theorem f_History_read : ∃ fd, FunD K "read" "History.read" (defArgs sHistory_read) (defBody sHistory_read) (defScope sHistory_read) [] [] (He5.wf K (He.ga K "History") "classmethod" "read") fd := T.dx 0 dxHistory_read rfl
theorem f_History_records : ∃ fd, FunD K "records" "History.records" (defArgs sHistory_records) (defBody sHistory_records) (defScope sHistory_records) [] [] (pf K (He.ga K "History") "records") fd := T.dx 1 dxHistory_records rfl
theorem f_History_references : ∃ fd, FunD K "references" "History.references" (defArgs sHistory_references) (defBody sHistory_references) (defScope sHistory_references) [] [] (pf K (He.ga K "History") "references") fd := T.dx 2 dxHistory_references rfl
end
abbrev N_InvalidText_init : List Str := ["self", "at"]
theorem sc_InvalidText_init : FnScope N_InvalidText_init ["self", "at"] (defScope sInvalidText_init) := ⟨rfl, rfl, rfl, by decide +kernel, rfl, by decide +kernel, by decide +kernel⟩
theorem v_InvalidText_init_0 : Nm N_InvalidText_init (defScope sInvalidText_init) 0 "self" := ⟨rfl, by decide +kernel, by decide +kernel, by decide +kernel⟩
theorem v_InvalidText_init_1 : Nm N_InvalidText_init (defScope sInvalidText_init) 1 "at" := ⟨rfl, by decide +kernel, by decide +kernel, by decide +kernel⟩
theorem x_InvalidText {P : Program} {w : World} {K : PySem.W.Frag} {mg : Str → Option Value} {base : Heap} (T : T0 w K mg) : ExcMk P w K mg base (He.ga K "InvalidText") "at" := by
  obtain ⟨fd, F⟩ := f_InvalidText_init T
  exact ⟨xn_InvalidText T, _, _, _, _, _, fd, _, basVE, xg_InvalidText T, xi_InvalidText T, xt_InvalidText T, FunD.bindsN (ps := ["self", "at"]) F (fun _ _ _ _ _ _ us hl => match us, hl with | [_, _], _ => rfl), fn_oexG basVE F sc_InvalidText_init v_InvalidText_init_0 v_InvalidText_init_1⟩
abbrev N_InvalidEvent_init : List Str := ["self", "at"]
theorem sc_InvalidEvent_init : FnScope N_InvalidEvent_init ["self", "at"] (defScope sInvalidEvent_init) := ⟨rfl, rfl, rfl, by decide +kernel, rfl, by decide +kernel, by decide +kernel⟩
theorem v_InvalidEvent_init_0 : Nm N_InvalidEvent_init (defScope sInvalidEvent_init) 0 "self" := ⟨rfl, by decide +kernel, by decide +kernel, by decide +kernel⟩
theorem v_InvalidEvent_init_1 : Nm N_InvalidEvent_init (defScope sInvalidEvent_init) 1 "at" := ⟨rfl, by decide +kernel, by decide +kernel, by decide +kernel⟩
theorem x_InvalidEvent {P : Program} {w : World} {K : PySem.W.Frag} {mg : Str → Option Value} {base : Heap} (T : T0 w K mg) : ExcMk P w K mg base (He.ga K "InvalidEvent") "at" := by
  obtain ⟨fd, F⟩ := f_InvalidEvent_init T
  exact ⟨xn_InvalidEvent T, _, _, _, _, _, fd, _, basVE, xg_InvalidEvent T, xi_InvalidEvent T, xt_InvalidEvent T, FunD.bindsN (ps := ["self", "at"]) F (fun _ _ _ _ _ _ us hl => match us, hl with | [_, _], _ => rfl), fn_oexG basVE F sc_InvalidEvent_init v_InvalidEvent_init_0 v_InvalidEvent_init_1⟩
abbrev N_NoEvent_init : List Str := ["self", "at"]
theorem sc_NoEvent_init : FnScope N_NoEvent_init ["self", "at"] (defScope sNoEvent_init) := ⟨rfl, rfl, rfl, by decide +kernel, rfl, by decide +kernel, by decide +kernel⟩
theorem v_NoEvent_init_0 : Nm N_NoEvent_init (defScope sNoEvent_init) 0 "self" := ⟨rfl, by decide +kernel, by decide +kernel, by decide +kernel⟩
theorem v_NoEvent_init_1 : Nm N_NoEvent_init (defScope sNoEvent_init) 1 "at" := ⟨rfl, by decide +kernel, by decide +kernel, by decide +kernel⟩
theorem x_NoEvent {P : Program} {w : World} {K : PySem.W.Frag} {mg : Str → Option Value} {base : Heap} (T : T0 w K mg) : ExcMk P w K mg base (He.ga K "NoEvent") "at" := by
  obtain ⟨fd, F⟩ := f_NoEvent_init T
  exact ⟨xn_NoEvent T, _, _, _, _, _, fd, _, basIE, xg_NoEvent T, xi_NoEvent T, xt_NoEvent T, FunD.bindsN (ps := ["self", "at"]) F (fun _ _ _ _ _ _ us hl => match us, hl with | [_, _], _ => rfl), fn_oexG basIE F sc_NoEvent_init v_NoEvent_init_0 v_NoEvent_init_1⟩
def loose0 : List Str := ["_wall", "__name__", "EndError", "InvalidText", "InvalidEvent", "NoEvent", "FIGURES", "KINDS", "is_integer", "is_sequence", "number_in", "MOST_FIGURES", "is_event", "event_text", "event_in"]
def loose1 : List Str := ["records_of", "History", "_law_deal", "_law_draw", "_law_pick", "_law_event", "_law_events"]
abbrev loose : List Str := loose0 ++ (loose1)
abbrev R : PySem.W.OpenRow := PySem.W.OpenLaw.row PySem.Challenge.rw_joinsback_k12_whole_histories_and_their
abbrev hk : PySem.W.Hook := hookP 5 fa fn fx ts ex
def ob (s : PySem.W.SharedT) : AlP := obsP 5 fa fn fx ts ex (HandSHeadRun.getT s)
theorem ob_eq (s : PySem.W.SharedT) : ob s = hk.obs s.abs := obsP_eq (HandSHeadRun.getT_eq s)
set_option maxHeartbeats 0 in
theorem runF (w : World) : HandSHeadRun.RunEq R (PySem.W.view R.prog [25]) hk ob 100000 loose (w.withFollow "special-get-raises" false) := by
  intro os; kernel_rfl
set_option maxHeartbeats 0 in
theorem runT (w : World) : HandSHeadRun.RunEq R (PySem.W.view R.prog [25]) hk ob 100000 loose (w.withFollow "special-get-raises" true) := by
  intro os; kernel_rfl
theorem run (w : World) : HandSHeadRun.RunEq R (PySem.W.view R.prog [25]) hk ob 100000 loose w :=
  PySem.W.byRow2 "special-get-raises" (P := fun w => HandSHeadRun.RunEq R (PySem.W.view R.prog [25]) hk ob 100000 loose w) runF runT w
def FactsC : Prop := ∀ (P : Program) (w : World) (K : PySem.W.Frag) (h : Heap) (mg : Str → Option Value) (f : Addr) (X : K.In h) (G : h.Ns mainGlobals mg) (hfa : mg ("law" : Str) = some (.ref f)) (c : sayP fa fn fx ts ex K = valP fn fx ts w),
    ∃ fd : FuncData, (∀ (s : Shared) (v : Value), BindsTo s fd ⟨[v], []⟩ [("_law_script", v)]) ∧ ∀ base : Heap, K.In base → base.Ns mainGlobals mg → FnD false P w K mg base 8 f fd ["_law_script"] spLaw
end LW
section
open PySem PySem.W PySem.Calls PyProof.Rows
set_option maxHeartbeats 0 in
theorem LW.fin (FC : LW.FactsC) : PySem.Challenge.rw_joinsback_k12_whole_histories_and_their.Holds := by
  w_on; o_law
  refine HandSHeadRun.head_any (r := OpenLaw.row PySem.Challenge.rw_joinsback_k12_whole_histories_and_their) (q := view (OpenLaw.row PySem.Challenge.rw_joinsback_k12_whole_histories_and_their).prog [25]) (H := LW.hk) (ob := LW.ob) (M := 100000) (loose := LW.loose) (d := HandSHeadRun.topDef (OpenLaw.row PySem.Challenge.rw_joinsback_k12_whole_histories_and_their).prog 25) (kwd := []) LW.ob_eq
    (by kernel_rfl) (fun s => by kernel_rfl) LW.run (by kernel_rfl) (by kernel_rfl) (by kernel_rfl) (by rfl) (by first | assumption | decide +kernel) (by decide +kernel) ⟨rfl, rfl, rfl, rfl, rfl, by decide +kernel⟩ ?hw ?hc
  case hw => w_witness2
  case hc =>
    refine PD.walk_pd (l := PySem.Challenge.rw_joinsback_k12_whole_histories_and_their) (n := 63) (k := 8) (x := "_law_script") rfl (by kernel_rfl) ⟨rfl, by decide, by decide⟩ ?F
    intro w mg fa h Y G hmg0
    obtain ⟨K, KX, c⟩ := Y
    have hmg : mg ("law" : PySem.Str) = some (.ref fa) := by
      have e : (HandSHeadRun.topDef (OpenLaw.row PySem.Challenge.rw_joinsback_k12_whole_histories_and_their).prog 25).name = ("law" : PySem.Str) := by kernel_rfl
      rw [← e]
      exact hmg0
    obtain ⟨fd, hb, hF⟩ := FC (PySem.Challenge.rw_joinsback_k12_whole_histories_and_their).prog w K h mg fa KX G hmg c
    exact ⟨K, fd, KX, hb, hF⟩
end
namespace LW
open PySem PySem.Spec PyProof.Rows L2 PD
local macro_rules | `(tactic| walk_at "pd.listL") => `(tactic| refine cld_list_lst ?_)
local macro_rules | `(tactic| walk_at "pd.listT") => `(tactic| refine cld_list_tup ?_)
local macro_rules | `(tactic| walk_at "pd.lst") => `(tactic| refine ed_lst ?_)
/-! the stepping tactic: by the head of the syntax -/
local macro_rules | `(tactic| walk_at "pd.side") => `(tactic| first | assumption | rfl | decide | omega)
local macro_rules | `(tactic| walk_at "pd.mem") => `(tactic| first | exact List.mem_cons_self | (refine List.mem_cons_of_mem _ ?_; walk_at "pd.mem") | assumption)
local macro_rules | `(tactic| walk_at "pd.ed") => `(tactic| first
  | ((with_reducible show ed _ (Expr.Name _ _) _ _ _); walk_at "pd.nm")
  | ((with_reducible show ed _ (Expr.Constant (Const.int _) _ _) _ _ _); refine ed_int ?_)
  | ((with_reducible show ed _ (Expr.Call _ _ _ _) _ _ _); walk_at "pd.call")
  | ((with_reducible show ed _ (Expr.Constant (Const.str _) _ _) _ _ _); refine ed_str ?_)
  | ((with_reducible show ed _ (Expr.Attribute _ _ _) _ _ _); walk_at "pd.fld")
  | ((with_reducible show ed _ (Expr.Subscript _ (Expr.Slice _ _ none _) _) _ _ _); refine ed_slc ?_)
  | ((with_reducible show ed _ (Expr.Subscript _ (Expr.Slice none none (some _) _) _) _ _ _); refine ed_rev ?_)
  | ((with_reducible show ed _ (Expr.Subscript _ _ _) _ _ _); refine ed_ix ?_)
  | ((with_reducible show ed _ (Expr.BinOp _ _ _ _) _ _ _); refine ed_bin ?_)
  | ((with_reducible show ed _ (Expr.Compare _ [_] _ _) _ _ _); refine ed_cmp (by with_unfolding_all rfl) ?_)
  | ((with_reducible show ed _ (Expr.List _ _) _ _ _); walk_at "pd.lst")
  | ((with_reducible show ed _ (Expr.Tuple _ _ _) _ _ _); refine ed_tup ?_)
  | ((with_reducible show ed _ (Expr.ListComp _ _ _ _) _ _ _); walk_at "pd.lc")
  | ((with_reducible show ed _ (Expr.DictComp _ _ _ _ _) _ _ _); walk_at "pd.dc")
  | ((with_reducible show ed _ (Expr.BoolOp _ [_] _) _ _ _); refine ed_one ?_)
  | ((with_reducible show ed _ (Expr.BoolOp BoolOp.And _ _) _ _ _); refine ed_and ?_)
  | ((with_reducible show ed _ (Expr.BoolOp BoolOp.Or _ _) _ _ _); refine ed_or ?_)
  | ((with_reducible show ed _ (Expr.IfExp _ _ _ _) _ _ _); refine ed_if ?_)
  | ((with_reducible show ed _ (Expr.UnaryOp UnaryOp.Not _ _) _ _ _); refine ed_not ?_)
  | ((with_reducible show ed _ (Expr.UnaryOp _ _ _) _ _ _); refine ed_un ?_)
  | ((with_reducible show ed _ (Expr.Constant (Const.bool _) _ _) _ _ _); refine ed_bl ?_)
  | ((with_reducible show ed _ (Expr.Constant Const.none _ _) _ _ _); refine ed_non ?_)
  | ((with_reducible show ed _ (Expr.Compare _ [_, _] _ _) _ _ _); refine ed_chain ?_)
  | fail)
local macro_rules | `(tactic| walk_at "pd.et") => `(tactic| first
  | ((with_reducible show et _ (Expr.Compare _ [_] _ _) _ _ _); refine et_cmp (by with_unfolding_all rfl) ?_)
  | ((with_reducible show et _ (Expr.Compare _ [_, _] _ _) _ _ _); refine et_chain ?_)
  | ((with_reducible show et _ (Expr.BoolOp _ _ _) _ _ _); refine et_ew ?_)
  | ((with_reducible show et _ (Expr.UnaryOp UnaryOp.Not _ _) _ _ _); refine et_not ?_)
  | refine et_val ?_
  | fail)
local macro_rules | `(tactic| walk_at "pd.ew") => `(tactic| first
  | ((with_reducible show ew _ (Expr.BoolOp BoolOp.And [_] _) _ _ _); refine ew_and1 ?_)
  | ((with_reducible show ew _ (Expr.BoolOp BoolOp.And _ _) _ _ _); refine ew_and ?_)
  | ((with_reducible show ew _ (Expr.BoolOp BoolOp.Or [_] _) _ _ _); refine ew_or1 ?_)
  | ((with_reducible show ew _ (Expr.BoolOp BoolOp.Or _ _) _ _ _); refine ew_or ?_)
  | fail)
local macro_rules | `(tactic| walk_at "pd.opd") => `(tactic| first
  | ((with_reducible show opd _ (compareOp CmpOp.Eq) (D.str _) (D.str _) _ _ _); refine opd_eqS ?_)
  | ((with_reducible show opd _ (compareOp CmpOp.Eq) (D.int _) (D.int _) _ _ _); refine opd_eqI ?_)
  | ((with_reducible show opd _ (binaryOp Operator.Add) (D.int _) (D.int _) _ _ _); refine opd_add ?_)
  | ((with_reducible show opd _ (compareOp CmpOp.Lt) (D.int _) (D.int _) _ _ _); refine opd_lt ?_)
  | ((with_reducible show opd _ (compareOp CmpOp.Is) (D.bl _) (D.bl _) _ _ _); refine opd_isB ?_)
  | ((with_reducible show opd _ (compareOp CmpOp.In) (D.str _) (D.str _) _ _ _); refine opd_inSign ?_)
  | ((with_reducible show opd _ (compareOp CmpOp.In) (D.str _) (D.tup (List.map D.str _)) _ _ _); refine opd_inS _ (.tup _) rfl ?_)
  | ((with_reducible show opd _ (compareOp CmpOp.In) (D.str _) (D.lst (List.map D.str _)) _ _ _); refine opd_inS _ (.lst _) rfl ?_)
  | ((with_reducible show opd _ (compareOp CmpOp.NotIn) (D.str _) (D.tup (List.map D.str _)) _ _ _); refine opd_notInS _ (.tup _) rfl ?_)
  | ((with_reducible show opd _ (compareOp CmpOp.NotIn) (D.str _) (D.lst (List.map D.str _)) _ _ _); refine opd_notInS _ (.lst _) rfl ?_)
  | ((with_reducible show opd _ (compareOp CmpOp.In) (D.int _) (D.lst (List.map D.int _)) _ _ _); refine opd_inI _ (.lst _) rfl ?_)
  | ((with_reducible show opd _ (compareOp CmpOp.NotIn) (D.int _) (D.lst (List.map D.int _)) _ _ _); refine opd_notInI _ (.lst _) rfl ?_)
  | ((with_reducible show opd _ (compareOp CmpOp.In) (D.int _) (D.tup (List.map D.int _)) _ _ _); refine opd_inI _ (.tup _) rfl ?_)
  | ((with_reducible show opd _ (compareOp CmpOp.NotIn) (D.int _) (D.tup (List.map D.int _)) _ _ _); refine opd_notInI _ (.tup _) rfl ?_)
  | ((with_reducible show opd _ (binaryOp Operator.Add) (D.lst _) (D.lst _) _ _ _); refine opd_cat ?_ ?_; focus (first | decide | (simp [small_le]; done) | (refine small_le ?_; simp only [List.length_append, List.length_cons, List.length_nil, List.length_map, List.length_take, List.length_drop]; omega) | fail))
  | ((with_reducible show opd _ (binaryOp Operator.Add) (D.tup _) (D.tup _) _ _ _); refine opd_catT ?_ ?_; focus (first | decide | (simp [small_le]; done) | (refine small_le ?_; simp only [List.length_append, List.length_cons, List.length_nil, List.length_map, List.length_take, List.length_drop]; omega) | fail))
  | ((with_reducible show opd _ (binaryOp Operator.Add) (D.str _) (D.str _) _ _ _); refine opd_addS (by first | assumption | decide) ?_)
  | ((with_reducible show opd _ (compareOp CmpOp.Gt) (D.int _) (D.int _) _ _ _); refine opd_gt ?_)
  | ((with_reducible show opd _ (compareOp CmpOp.LtE) (D.int _) (D.int _) _ _ _); refine opd_le ?_)
  | ((with_reducible show opd _ (compareOp CmpOp.GtE) (D.int _) (D.int _) _ _ _); refine opd_ge ?_)
  | ((with_reducible show opd _ (compareOp CmpOp.NotEq) (D.int _) (D.int _) _ _ _); refine opd_neI ?_)
  | ((with_reducible show opd _ (compareOp CmpOp.NotEq) (D.str _) (D.str _) _ _ _); refine opd_neS ?_)
  | ((with_reducible show opd _ (compareOp CmpOp.Is) _ D.non _ _ _); refine opd_isN ?_)
  | ((with_reducible show opd _ (compareOp CmpOp.IsNot) _ D.non _ _ _); refine opd_notN ?_)
  | ((with_reducible show opd _ (binaryOp Operator.Sub) (D.int _) (D.int _) _ _ _); refine opd_sub ?_)
  | ((with_reducible show opd _ (binaryOp Operator.Mult) (D.int _) (D.int _) _ _ _); refine opd_mul (by first | (refine Or.inr ⟨?_, ?_⟩ <;> decide) | (refine Or.inl ⟨?_, ?_⟩ <;> decide) | (refine Or.inl ⟨?_, ?_⟩ <;> omega) | (refine Or.inr ⟨?_, ?_⟩ <;> omega)) ?_)
  | ((with_reducible show opd _ (binaryOp Operator.Mod) (D.int _) (D.int _) _ _ _); refine opd_mod (by walk_at "pd.side") ?_)
  | ((with_reducible show opd _ (binaryOp Operator.FloorDiv) (D.int _) (D.int _) _ _ _); refine opd_fdiv (by constructor <;> walk_at "pd.side") ?_)
  | ((with_reducible show opd _ (binaryOp Operator.Pow) (D.int _) (D.int _) _ _ _); refine opd_pow (by refine ⟨?_, ?_, ?_⟩ <;> decide) ?_)
  | fail)
local macro_rules | `(tactic| walk_at "pd.ty") => `(tactic| first | exact .str _ | exact .bl _ | exact .int _ | exact .non | exact .lst _ | exact .tup _ | exact .rl _ | exact .own (by walk_at "pd.mem") | assumption)
local macro_rules | `(tactic| walk_at "pd.isi") => `(tactic| first
  | ((with_reducible show cld _ _ [D.str _, D.ty "str"] _ _ _); refine cld_isi (.str _) rfl (kit_ty kb_str_str) ?_)
  | ((with_reducible show cld _ _ [D.str _, D.ty "int"] _ _ _); refine cld_isi (.str _) rfl (kit_ty kb_str_int) ?_)
  | ((with_reducible show cld _ _ [D.str _, D.ty "bool"] _ _ _); refine cld_isi (.str _) rfl (kit_ty kb_str_bool) ?_)
  | ((with_reducible show cld _ _ [D.str _, D.ty "list"] _ _ _); refine cld_isi (.str _) rfl (kit_ty kb_str_list) ?_)
  | ((with_reducible show cld _ _ [D.str _, D.ty "tuple"] _ _ _); refine cld_isi (.str _) rfl (kit_ty kb_str_tuple) ?_)
  | ((with_reducible show cld _ _ [D.bl _, D.ty "str"] _ _ _); refine cld_isi (.bl _) rfl (kit_ty kb_bool_str) ?_)
  | ((with_reducible show cld _ _ [D.bl _, D.ty "int"] _ _ _); refine cld_isi (.bl _) rfl (kit_ty kb_bool_int) ?_)
  | ((with_reducible show cld _ _ [D.bl _, D.ty "bool"] _ _ _); refine cld_isi (.bl _) rfl (kit_ty kb_bool_bool) ?_)
  | ((with_reducible show cld _ _ [D.bl _, D.ty "list"] _ _ _); refine cld_isi (.bl _) rfl (kit_ty kb_bool_list) ?_)
  | ((with_reducible show cld _ _ [D.bl _, D.ty "tuple"] _ _ _); refine cld_isi (.bl _) rfl (kit_ty kb_bool_tuple) ?_)
  | ((with_reducible show cld _ _ [D.int _, D.ty "str"] _ _ _); refine cld_isi (.int _) rfl (kit_ty kb_int_str) ?_)
  | ((with_reducible show cld _ _ [D.int _, D.ty "int"] _ _ _); refine cld_isi (.int _) rfl (kit_ty kb_int_int) ?_)
  | ((with_reducible show cld _ _ [D.int _, D.ty "bool"] _ _ _); refine cld_isi (.int _) rfl (kit_ty kb_int_bool) ?_)
  | ((with_reducible show cld _ _ [D.int _, D.ty "list"] _ _ _); refine cld_isi (.int _) rfl (kit_ty kb_int_list) ?_)
  | ((with_reducible show cld _ _ [D.int _, D.ty "tuple"] _ _ _); refine cld_isi (.int _) rfl (kit_ty kb_int_tuple) ?_)
  | ((with_reducible show cld _ _ [D.non, D.ty "str"] _ _ _); refine cld_isi (.non) rfl (kit_ty kb_NoneType_str) ?_)
  | ((with_reducible show cld _ _ [D.non, D.ty "int"] _ _ _); refine cld_isi (.non) rfl (kit_ty kb_NoneType_int) ?_)
  | ((with_reducible show cld _ _ [D.non, D.ty "bool"] _ _ _); refine cld_isi (.non) rfl (kit_ty kb_NoneType_bool) ?_)
  | ((with_reducible show cld _ _ [D.non, D.ty "list"] _ _ _); refine cld_isi (.non) rfl (kit_ty kb_NoneType_list) ?_)
  | ((with_reducible show cld _ _ [D.non, D.ty "tuple"] _ _ _); refine cld_isi (.non) rfl (kit_ty kb_NoneType_tuple) ?_)
  | ((with_reducible show cld _ _ [D.lst _, D.ty "str"] _ _ _); refine cld_isi (.lst _) rfl (kit_ty kb_list_str) ?_)
  | ((with_reducible show cld _ _ [D.lst _, D.ty "int"] _ _ _); refine cld_isi (.lst _) rfl (kit_ty kb_list_int) ?_)
  | ((with_reducible show cld _ _ [D.lst _, D.ty "bool"] _ _ _); refine cld_isi (.lst _) rfl (kit_ty kb_list_bool) ?_)
  | ((with_reducible show cld _ _ [D.lst _, D.ty "list"] _ _ _); refine cld_isi (.lst _) rfl (kit_ty kb_list_list) ?_)
  | ((with_reducible show cld _ _ [D.lst _, D.ty "tuple"] _ _ _); refine cld_isi (.lst _) rfl (kit_ty kb_list_tuple) ?_)
  | ((with_reducible show cld _ _ [D.rl _, D.ty "str"] _ _ _); refine cld_isi (.rl _) rfl (kit_ty kb_list_str) ?_)
  | ((with_reducible show cld _ _ [D.rl _, D.ty "int"] _ _ _); refine cld_isi (.rl _) rfl (kit_ty kb_list_int) ?_)
  | ((with_reducible show cld _ _ [D.rl _, D.ty "bool"] _ _ _); refine cld_isi (.rl _) rfl (kit_ty kb_list_bool) ?_)
  | ((with_reducible show cld _ _ [D.rl _, D.ty "list"] _ _ _); refine cld_isi (.rl _) rfl (kit_ty kb_list_list) ?_)
  | ((with_reducible show cld _ _ [D.rl _, D.ty "tuple"] _ _ _); refine cld_isi (.rl _) rfl (kit_ty kb_list_tuple) ?_)
  | ((with_reducible show cld _ _ [D.tup _, D.ty "str"] _ _ _); refine cld_isi (.tup _) rfl (kit_ty kb_tuple_str) ?_)
  | ((with_reducible show cld _ _ [D.tup _, D.ty "int"] _ _ _); refine cld_isi (.tup _) rfl (kit_ty kb_tuple_int) ?_)
  | ((with_reducible show cld _ _ [D.tup _, D.ty "bool"] _ _ _); refine cld_isi (.tup _) rfl (kit_ty kb_tuple_bool) ?_)
  | ((with_reducible show cld _ _ [D.tup _, D.ty "list"] _ _ _); refine cld_isi (.tup _) rfl (kit_ty kb_tuple_list) ?_)
  | ((with_reducible show cld _ _ [D.tup _, D.ty "tuple"] _ _ _); refine cld_isi (.tup _) rfl (kit_ty kb_tuple_tuple) ?_)
  | fail)
local macro_rules | `(tactic| walk_at "pd.isiT") => `(tactic| first
  | ((with_reducible show cld _ _ [D.lst _, _] _ _ _); refine cld_isiSeq (.lst _) ?_)
  | ((with_reducible show cld _ _ [D.rl _, _] _ _ _); refine cld_isiSeq (.rl _) ?_)
  | ((with_reducible show cld _ _ [D.tup _, _] _ _ _); refine cld_isiSeq (.tup _) ?_)
  | ((with_reducible show cld _ _ [D.ref _, _] _ _ _); refine cld_isiSeq (.own (by walk_at "pd.mem")) ?_)
  | ((with_reducible show cld _ _ [D.str _, _] _ _ _); refine cld_isiNoSeq (.str _) ka_str ?_)
  | ((with_reducible show cld _ _ [D.int _, _] _ _ _); refine cld_isiNoSeq (.int _) ka_int ?_)
  | ((with_reducible show cld _ _ [D.bl _, _] _ _ _); refine cld_isiNoSeq (.bl _) ka_bool ?_)
  | ((with_reducible show cld _ _ [D.non, _] _ _ _); refine cld_isiNoSeq .non ka_NoneType ?_)
  | fail)
local macro_rules | `(tactic| walk_at "pd.cld") => `(tactic| first
  | ((with_reducible show cld _ (Value.builtin "len") [D.lst _] _ _ _); refine cld_len_lst ?_)
  | ((with_reducible show cld _ (Value.type "int") [D.int _] _ _ _); refine cld_int ?_)
  | ((with_reducible show cld _ (Value.type "str") [D.str _] _ _ _); refine cld_strS ?_)
  | ((with_reducible show cld _ (Value.type "tuple") [D.ref _] _ _ _); refine cld_tuple_own (by walk_at "pd.mem") ?_)
  | ((with_reducible show cld _ (Value.builtin "repr") [D.bl _] _ _ _); refine cld_repr_bl ?_)
  | ((with_reducible show cld _ (Value.builtin "all") [D.lst (List.map D.bl _)] _ _ _); refine cld_all rfl ?_)
  | ((with_reducible show cld _ (Value.builtin "any") [D.lst (List.map D.bl _)] _ _ _); refine cld_any rfl ?_)
  | ((with_reducible show cld _ (Value.builtin "len") [D.str _] _ _ _); refine cld_len_str (by walk_at "pd.side") ?_)
  | ((with_reducible show cld _ (Value.builtin "isinstance") [_, D.tup _] _ _ _); walk_at "pd.isiT")
  | ((with_reducible show cld _ (Value.builtin "isinstance") [_, _] _ _ _); walk_at "pd.isi")
  | ((with_reducible show cld _ (Value.builtin "len") [D.tup _] _ _ _); refine cld_len_tup ?_)
  | ((with_reducible show cld _ (Value.builtin "len") [D.ref _] _ _ _); first | refine cld_len_own (by walk_at "pd.mem") ?_ | refine cld_len_Y (Or.inl (by walk_at "pd.mem")) ?_)
  | ((with_reducible show cld _ (Value.builtin "len") [D.rl _] _ _ _); refine cld_len_rl ?_)
  | ((with_reducible show cld _ (Value.builtin "abs") [D.int _] _ _ _); refine cld_abs ?_)
  | ((with_reducible show cld _ (Value.type "tuple") [D.lst _] _ _ _); refine cld_tuple_lst ?_)
  | ((with_reducible show cld _ (Value.type "tuple") [D.tup _] _ _ _); refine cld_tuple_tup ?_)
  | ((with_reducible show cld _ (Value.type "list") [D.tup _] _ _ _); walk_at "pd.listT")
  | ((with_reducible show cld _ (Value.type "list") [D.lst _] _ _ _); walk_at "pd.listL")
  | fail)
local macro_rules | `(tactic| walk_at "pd.ixd") => `(tactic| first
  | ((with_reducible show ixd _ (D.ref _) (D.int _) _ _ _); refine ixd_own (by walk_at "pd.mem") (by rfl) ?_)
  | ((with_reducible show ixd _ (D.lst (_ :: _)) (D.int 0) _ _ _); refine ixd_lst atI_zero ?_)
  | ((with_reducible show ixd _ (D.tup (_ :: _)) (D.int 0) _ _ _); refine ixd_tup atI_zero ?_)
  | ((with_reducible show ixd _ (D.lst _) (D.int _) _ _ _); refine ixd_lst (by rfl) ?_)
  | ((with_reducible show ixd _ (D.tup _) (D.int _) _ _ _); refine ixd_tup (by rfl) ?_)
  | fail)
local macro_rules | `(tactic| walk_at "pd.sd") => `(tactic| first
  | ((with_reducible show sd _ (Stmt.Assign [Expr.Name _ _] _ _) _ _ _); walk_at "pd.set")
  | ((with_reducible show sd _ (Stmt.If _ _ _ _) _ _ _); refine sd_if ?_)
  | ((with_reducible show sd _ (Stmt.Return (some _) _) _ _ _); refine sd_ret ?_)
  | ((with_reducible show sd _ (Stmt.Expr (Expr.Constant _ _ _) _) _ _ _); refine sd_doc ?_)
  | ((with_reducible show sd _ (Stmt.Expr _ _) _ _ _); refine sd_expr ?_)
  | ((with_reducible show sd _ (Stmt.Assign [Expr.Attribute _ _ _] _ _) _ _ _); walk_at "pd.sfld")
  | ((with_reducible show sd _ (Stmt.Assign [Expr.Tuple [_, _] _ _] (Expr.Tuple [_, _] _ _) _) _ _ _); walk_at "pd.par")
  | ((with_reducible show sd _ (Stmt.Assign [Expr.Tuple [_, _, _] _ _] (Expr.Tuple [_, _, _] _ _) _) _ _ _); walk_at "pd.par")
  | ((with_reducible show sd _ (Stmt.Assign _ _ _) _ _ _); refine sd_asg ?_)
  | ((with_reducible show sd _ (Stmt.Return none _) _ _ _); refine sd_retN ?_)
  | ((with_reducible show sd _ (Stmt.Pass _) _ _ _); refine sd_pass ?_)
  | ((with_reducible show sd _ (Stmt.AugAssign (Expr.Name _ _) _ _ _) _ _ _); walk_at "pd.aug")
  | ((with_reducible show sd _ (Stmt.Raise _ _ _) _ _ _); walk_at "pd.raise")
  | ((with_reducible show sd _ (Stmt.Try _ _ _ _ _) _ _ _); walk_at "pd.try")
  | fail)
local macro_rules | `(tactic| walk_at "pd.gd") => `(tactic| first
  | walk_at "pd.g"
  | ((with_reducible show gd _ (Expr.Subscript _ _ _) _ _ _ _); refine gd_setL ?_)
  | ((with_reducible show gd _ (Expr.Tuple _ _ _) (D.tup _) _ _ _); refine gd_tup rfl ⟨rfl, ?_⟩)
  | ((with_reducible show gv _ (Expr.Tuple _ _ _) (D.tup _) _ _ _ _); refine gv_tup rfl ⟨rfl, ?_⟩)
  | fail)
local macro_rules | `(tactic| walk_at "pd.l") => `(tactic| first
  | (with_reducible refine exB ?_)
  | (with_reducible refine iteT ?_) | (with_reducible refine iteF ?_)
  | ((with_reducible show if List.isEmpty (_ :: _) = true then _ else _); refine iteFr rfl ?_)
  | ((with_reducible show if List.isEmpty [] = true then _ else _); refine iteTr rfl ?_)
  | ((with_reducible show if isBlD _ = true then _ else _); first | (refine iteTr (by rfl) ?_) | (refine iteFr (by rfl) ?_))
  | ((with_reducible show if (!isBlD _) = true then _ else _); first | (refine iteTr (by rfl) ?_) | (refine iteFr (by rfl) ?_))
  | ((with_reducible show if isStrD _ = true then _ else _); first | (refine iteTr (by rfl) ?_) | (refine iteFr (by rfl) ?_))
  | ((with_reducible show if (!isStrD _) = true then _ else _); first | (refine iteTr (by rfl) ?_) | (refine iteFr (by rfl) ?_))
  | ((with_reducible show List.length _ ≤ 1000 ∧ _); refine ⟨by first | decide | (simp; done), ?_⟩)
  | ((with_reducible show List.length _ = _ ∧ _); refine ⟨rfl, ?_⟩)
  | ((with_reducible show ∃ (x : D) (xs : List D), [_] = [x] ∧ SeqD _ x xs ∧ _); refine ⟨_, _, rfl, by first | exact .lst _ | exact .tup _ | exact .own (by walk_at "pd.mem") | assumption, ?_⟩)
  | ((with_reducible show ∃ (d d' : D), [_, _] = [d, d'] ∧ _); refine ⟨_, _, rfl, ?_⟩)
  | ((with_reducible show ∃ (d d' d'' : D), [_, _, _] = [d, d', d''] ∧ _); refine ⟨_, _, _, rfl, ?_⟩)
  | ((with_reducible show tyD "list" (D.ref _) _ ∧ _); refine ⟨Or.inl ⟨_, by walk_at "pd.mem", rfl⟩, ?_⟩)
  | ((with_reducible show tyD _ (D.str _) _ ∧ _); refine ⟨rfl, ?_⟩)
  | ((with_reducible show tyD _ (D.lst _) _ ∧ _); refine ⟨rfl, ?_⟩)
  | ((with_reducible show tyD "dict" (D.ref _) _ ∧ _); refine ⟨Or.inr (Or.inl ⟨_, _, by walk_at "pd.mem", rfl⟩), ?_⟩)
  | (with_reducible refine exI ?_)
  | ((with_reducible show ∃ (p : Addr) (dx : Addr) (ns : List Str) (ds : List D) (μa μb : Mu), _); refine ⟨_, _, _, _, [], _, rfl, rfl, of_decide_eq_true rfl, ?_⟩)
  | ((with_reducible show ∃ (d : D), FldD _ _ _ _ d ∧ _); first | refine ⟨_, ⟨rfl, rfl⟩, ?_⟩ | refine ⟨_, ⟨_, _, _, by walk_at "pd.mem", rfl⟩, ?_⟩)
  | ((with_reducible show if (!false) = true then _ else _); refine iteT ?_) | ((with_reducible show if (!true) = true then _ else _); refine iteF ?_)
  | ((with_reducible show if (!List.isEmpty []) = true then _ else _); refine iteF ?_) | ((with_reducible show if (!List.isEmpty (_ :: _)) = true then _ else _); refine iteT ?_)
  | fail)
local macro_rules | `(tactic| walk_at "pd1") => `(tactic| first
  | ((with_reducible show ed _ _ _ _ _); walk_at "pd.ed")
  | ((with_reducible show opd _ _ _ _ _ _ _); walk_at "pd.opd")
  | ((with_reducible show ea _ [] _ _ _); refine ea_nil ?_)
  | ((with_reducible show ea _ (Expr.Starred _ _ :: _) _ _ _); refine ea_star ?_)
  | ((with_reducible show ea _ (_ :: _) _ _ _); refine ea_cons ?_)
  | ((with_reducible show et _ _ _ _ _); walk_at "pd.et")
  | ((with_reducible show sds _ (_ :: _) _ _ _); refine sds_cons ?_)
  | ((with_reducible show sds _ [] _ _ _); refine sds_nil ?_)
  | ((with_reducible show sd _ _ _ _ _); walk_at "pd.sd")
  | walk_at "pd.l"
  | ((with_reducible show cld _ _ _ _ _ _); walk_at "pd.cld")
  | ((with_reducible show ew _ _ _ _ _); walk_at "pd.ew")
  | ((with_reducible show ixd _ _ _ _ _ _); walk_at "pd.ixd")
  | ((with_reducible show gd _ _ _ _ _ _); walk_at "pd.gd")
  | ((with_reducible show gv _ _ _ _ _ _ _); walk_at "pd.gd")
  | ((with_reducible show gds _ [] [] _ _ _); refine gds_nil ?_)
  | ((with_reducible show gds _ (_ :: _) (_ :: _) _ _ _); refine gds_cons ?_)
  | ((with_reducible show gvs _ [] [] _ _ _ _); refine gvs_nil ?_)
  | ((with_reducible show gvs _ (_ :: _) (_ :: _) _ _ _ _); refine gvs_cons ?_)
  | ((with_reducible show PD.allB _ _ _); intro _ _ _ _ _ _ _ _)
  | ((with_reducible show eif _ [] _ _ _); refine eif_nil ?_)
  | ((with_reducible show eif _ [_] _ _ _); refine eif_one ?_)
  | ((with_reducible show eif _ (_ :: _ :: _) _ _ _); refine eif_cons ?_)
  | ((with_reducible show eo _ none _ _ _); refine eo_none ?_)
  | ((with_reducible show eo _ (some _) _ _ _); refine eo_some ?_)
  | ((with_reducible show slc _ (D.lst _) _ _ _ _ _); refine slc_lst ?_)
  | ((with_reducible show slc _ (D.str _) _ _ _ _ _); refine slc_str (by walk_at "pd.side") ?_)
  | ((with_reducible show mtd _ "str.startswith" (D.str _) [D.str _] _ _ _); refine mtd_startswith ?_)
  | ((with_reducible show ∃ (xs : List D), SeqD _ (D.ref _) xs ∧ _); refine ⟨_, .own (by walk_at "pd.mem"), ?_⟩)
  | ((with_reducible show InsD _ _ _ _ ∧ _); refine ⟨⟨rfl, by decide⟩, ?_⟩)
  | ((with_reducible show ∃ (xs : List D), SeqD _ (D.lst _) xs ∧ _); refine ⟨_, .lst _, ?_⟩)
  | ((with_reducible show ∃ (xs : List D), SeqD _ (D.tup _) xs ∧ _); refine ⟨_, .tup _, ?_⟩)
  | ((with_reducible show slc _ (D.tup _) _ _ _ _ _); refine slc_tup ?_)
  | ((with_reducible show slc _ (D.rl _) _ _ _ _ _); refine slc_rl ?_)
  | ((with_reducible show eid _ _ _ _ _ _); walk_at "pd.it")
  | ((with_reducible show itd _ _ (D.str _) _ _ _); refine itd_str ?_)
  | ((with_reducible show itd _ _ (D.lst _) _ _ _); refine itd_lst ?_)
  | ((with_reducible show itd _ _ (D.tup _) _ _ _); refine itd_tup ?_)
  | ((with_reducible show itd _ _ (D.rl _) _ _ _); refine itd_rl ?_)
  | ((with_reducible show und _ (unaryOp UnaryOp.USub) (D.int _) _ _ _); refine und_neg ?_)
  | fail)
/-- the steps one after another -/
local macro_rules | `(tactic| walk_at "pd") => `(tactic| repeat' walk_at "pd1")
/-- the steps up to the next statement -/
local macro_rules | `(tactic| walk_at "pdS1") => `(tactic| (fail_if_success (with_reducible show sds _ (_ :: _) _ _ _)); walk_at "pd1")
local macro_rules | `(tactic| walk_at "pdS") => `(tactic| repeat' walk_at "pdS1")
/-- the steps up to the next list display -/
local macro_rules | `(tactic| walk_at "pdL1") => `(tactic| (fail_if_success (with_reducible show ed _ (Expr.List _ _) _ _ _)); walk_at "pd1")
local macro_rules | `(tactic| walk_at "pdL") => `(tactic| repeat' walk_at "pdL1")
/-- the steps up to a field's owner -/
local macro_rules | `(tactic| walk_at "pdF1") => `(tactic| (fail_if_success (with_reducible show ∃ (d : D), FldD _ _ _ _ d ∧ _)); walk_at "pd1")
local macro_rules | `(tactic| walk_at "pdF") => `(tactic| repeat' walk_at "pdF1")
local macro_rules | `(tactic| walk_at "pd.fldX") => `(tactic| first | refine ⟨_, ⟨by (with_reducible refine ga_same ?_); rfl, by rfl⟩, ?_⟩ | refine ⟨_, ⟨_, _, _, by walk_at "pd.mem", rfl⟩, ?_⟩)
/-- the steps up to the next subscript -/
local macro_rules | `(tactic| walk_at "pdX1") => `(tactic| (fail_if_success (with_reducible show ed _ (Expr.Subscript _ _ _) _ _ _)); walk_at "pd1")
local macro_rules | `(tactic| walk_at "pdX") => `(tactic| repeat' walk_at "pdX1")
/-! ### the source of draws -/
/-- the deal: two owned lists -/
@[reducible] def dealM (p q : Addr) (l : List Int) (m : Int) : Mu := [(p, .lst [.ref q, .int m]), (q, .lst (l.map .int))]
structure DealOk (l : List Int) (m : Int) : Prop where
  m0 : 0 ≤ m
  m1 : m < 2147483647
  l0 : ∀ z ∈ l, 0 ≤ z
  ll : l.length ≤ 100
/-- the cells with the deal ahead -/
def Deal (p q : Addr) (μr μ : Mu) : Prop := ∃ l m, DealOk l m ∧ μ = dealM p q l m ++ μr
section
variable {P : Program} {w : World} {K : PySem.W.Frag} {mg : Str → Option Value} {base : Heap}
def spDraw : SpD := fun ds μ Q _ => ∃ p q μr n, ds = [.ref p, .int n] ∧ Deal p q μr μ ∧ 0 < n ∧ n < 1000000 ∧ ∀ r μ', 0 ≤ r → r < n → Deal p q μr μ' → Q (.int r) μ'
section
abbrev N_draw : List Str := ["_law_deal_here", "_law_many", "_law_left"]
theorem sc_draw : FnScope N_draw ["_law_deal_here", "_law_many"] (defScope sdraw) := ⟨rfl, rfl, rfl, by decide +kernel, rfl, by decide +kernel, by decide +kernel⟩
theorem v_draw_deal_here : Nm N_draw (defScope sdraw) 0 "_law_deal_here" := ⟨rfl, by decide +kernel, by decide +kernel, by decide +kernel⟩
theorem v_draw_many : Nm N_draw (defScope sdraw) 1 "_law_many" := ⟨rfl, by decide +kernel, by decide +kernel, by decide +kernel⟩
theorem v_draw_left : Nm N_draw (defScope sdraw) 2 "_law_left" := ⟨rfl, by decide +kernel, by decide +kernel, by decide +kernel⟩
theorem gl_draw_int : (defScope sdraw).names.lookup ("int" : Str) = some .globalImplicit := by decide +kernel
local macro_rules | `(tactic| walk_at "pd.nm") => `(tactic| first
  | ((with_reducible show ed _ (Expr.Name "_law_deal_here" _) _ _ _); first | refine ed_nm v_draw_deal_here rfl ?_ | refine ed_nmB (sc := defScope sdraw) v_draw_deal_here rfl ?_)
  | ((with_reducible show ed _ (Expr.Name "_law_many" _) _ _ _); first | refine ed_nm v_draw_many rfl ?_ | refine ed_nmB (sc := defScope sdraw) v_draw_many rfl ?_)
  | ((with_reducible show ed _ (Expr.Name "_law_left" _) _ _ _); first | refine ed_nm v_draw_left rfl ?_ | refine ed_nmB (sc := defScope sdraw) v_draw_left rfl ?_)
  | ((with_reducible show ed _ (Expr.Name "int" _) _ _ _); refine ed_ty (n := "int") (b_int (by assumption)) bb_int ?_ (hg := by first | exact gl_of gl_draw_int))
  | fail)
local macro_rules | `(tactic| walk_at "pd.set") => `(tactic| first
  | ((with_reducible show sd _ (Stmt.Assign [Expr.Name "_law_left" _] _ _) _ _ _); refine sd_nm v_draw_left sc_draw.nd ?_)
  | fail)
local macro_rules | `(tactic| walk_at "pd.g") => `(tactic| first
  | ((with_reducible show gd _ (Expr.Name "_law_left" _) _ _ _ _); refine gd_nm v_draw_left sc_draw.nd ?_)
  | fail)
local macro_rules | `(tactic| walk_at "pd.call") => `(tactic| first
  | ((with_reducible show ed _ (Expr.Call (Expr.Attribute _ "pop" _) [] _ _) _ _ _); with_reducible refine ed_bm0 PySem.F.plainAttrs_list PySem.F.slot_list_pop PySem.F.type_list_pop ?_)
  | ((with_reducible show ed _ (Expr.Call (Expr.Attribute _ "append" _) (_ :: _) _ _) _ _ _); with_reducible refine ed_bm PySem.F.plainAttrs_list PySem.F.slot_list_append PySem.F.type_list_append ?_)
  | ((with_reducible show ed _ (Expr.Call (Expr.Name "int" _) (_ :: _) _ _) _ _ _); refine ed_callTy (T := "int") (b_int (by assumption)) bb_int ?_ (hg := by first | exact gl_of gl_draw_int))
  | fail)
local macro_rules | `(tactic| walk_at "pd.it") => `(tactic| first
  | ((with_reducible show eid _ _ _ _ _ _); refine eid_of ?_)
  | fail)
theorem ok_draw (T : T0 w K mg) : CallD P w K mg base 1 (He.ga K "_law_draw") 2 [] spDraw := by
  obtain ⟨fd, F⟩ := f_draw T
  refine CallD.mk0 (ps := ["_law_deal_here", "_law_many"]) F (fun _ _ _ _ _ _ us hl => match us, hl with | [_, _], _ => rfl) (fnD_of F sc_draw fun cdv A outer s H F0 μ ds Qd Ed hr hl h => ?_)
  obtain ⟨p, q, μr, n, rfl, ⟨l, m, ⟨hm0, hm1, hl0, hl1⟩, rfl⟩, hn0, hn1, k⟩ := h
  have hu := hr.units
  have hq : ∀ (l' : List Int) (m' : Int), (q, Cell.lst (l'.map .int)) ∈ dealM p q l' m' ++ μr := fun l' _ => List.mem_cons_of_mem _ List.mem_cons_self
  show sds _ _ [some (.ref p), some (.int n), none] _ _
  -- while
  refine sds_cut (fun δ' μ' => ∃ l', δ' = [some (.ref p), some (.int n), none] ∧ μ' = dealM p q l' m ++ μr ∧ (∀ z ∈ l', 0 ≤ z) ∧ l'.length ≤ 100) ?_ ?_
  · refine sd_while (fun x δ' μ' => ∃ l', δ' = [some (.ref p), some (.int n), none] ∧ μ' = dealM p q l' m ++ μr ∧ x = l'.length ∧ (∀ z ∈ l', 0 ≤ z) ∧ l'.length ≤ 100) l.length ⟨l, rfl, rfl, rfl, hl0, hl1⟩ ?_
    rintro x δ' μ' ⟨l', rfl, rfl, rfl, h1, h2⟩
    walk_at "pd"
    refine opd_neV (x' := .lst (l'.map .int)) (y' := .lst []) hu (.own (hq _ _)) (.same _) (ok_ints _) (by rfl) (depth_ints _) (by decide) ?_
    rw [eqD_nil]
    rcases nil_or_snoc l' with rfl | ⟨l0, z, rfl⟩
    · walk_at "pd"
      exact ⟨[], rfl, rfl, h1, h2⟩
    · rw [map_concat_int]
      have e : (l0.map D.int ++ [D.int z]).isEmpty = false := by cases l0 <;> rfl
      rw [e]
      have h3 : (q, Cell.lst (l0.map D.int ++ [D.int z])) ∈ dealM p q (l0 ++ [z]) m ++ μr := by
        have := hq (l0 ++ [z]) m
        rw [map_concat_int] at this; exact this
      walk_at "pd"
      refine ixd_own h3 (atI_last' _ _) ?_
      walk_at "pd"
      refine ite2 (fun hz => ?_) (fun hz => ?_)
      · walk_at "pd"
        have eμ : dealM p q (l0 ++ [z]) m ++ μr = [(p, Cell.lst [.ref q, .int m])] ++ (q, Cell.lst (l0.map D.int ++ [D.int z])) :: μr := by
          show [(p, Cell.lst [.ref q, .int m]), (q, Cell.lst ((l0 ++ [z]).map D.int))] ++ μr = _
          rw [map_concat_int]; rfl
        rw [eμ]
        refine mtd_pop (d := .int z) (by simp) ?_
        rw [List.dropLast_concat]
        walk_at "pd"
        exact ⟨l0.length, by simp, l0, rfl, rfl, rfl, fun y hy => h1 y (by simp [hy]), by simp at h2; omega⟩
      · walk_at "pd"
        exact ⟨l0 ++ [z], rfl, rfl, h1, h2⟩
  · rintro δ' μ' ⟨l', rfl, rfl, h1, h2⟩
    walk_at "pd"
    refine opd_neV (x' := .lst (l'.map .int)) (y' := .lst []) hu (.own (hq _ _)) (.same _) (ok_ints _) (by rfl) (depth_ints _) (by decide) ?_
    rw [eqD_nil]
    rcases nil_or_snoc l' with rfl | ⟨l0, z, rfl⟩
    · rw [List.map_nil]
      walk_at "pd"
      refine ⟨p, 1, 1, [.ref q, .int m], [], _, rfl, rfl, rfl, rfl, ?_⟩
      walk_at "pd"
      exact k _ _ (Int.emod_nonneg _ (by omega)) (Int.emod_lt_of_pos _ hn0) ⟨[], _, ⟨Int.emod_nonneg _ (by decide), Int.emod_lt_of_pos _ (by decide), (fun z hz => by cases hz), by decide⟩, rfl⟩
    · rw [map_concat_int]
      have e : (l0.map D.int ++ [D.int z]).isEmpty = false := by cases l0 <;> rfl
      rw [e]
      have eμ : dealM p q (l0 ++ [z]) m ++ μr = [(p, Cell.lst [.ref q, .int m])] ++ (q, Cell.lst (l0.map D.int ++ [D.int z])) :: μr := by
        show [(p, Cell.lst [.ref q, .int m]), (q, Cell.lst ((l0 ++ [z]).map D.int))] ++ μr = _
        rw [map_concat_int]; rfl
      rw [eμ]
      walk_at "pd"
      refine mtd_pop (d := .int z) (by simp) ?_
      rw [List.dropLast_concat]
      walk_at "pd"
      refine mtd_append (μ1 := [(p, _)]) (small_lt (by simp at h2 ⊢; omega)) ?_
      rw [← map_concat_int]
      have z0 : 0 ≤ z := h1 z (by simp)
      have z1 : 0 ≤ z / n := Int.ediv_nonneg z0 (by omega)
      walk_at "pd"
      refine k _ _ (Int.emod_nonneg _ (by omega)) (Int.emod_lt_of_pos _ hn0) ⟨l0 ++ [z / n], m, ⟨hm0, hm1, fun y hy => ?_, by simp at h2 ⊢; omega⟩, rfl⟩
      rcases List.mem_append.mp hy with e | e
      · exact h1 y (by simp [e])
      · rw [List.mem_singleton.mp e]; exact z1
end
/-! ### one of some things -/
def spPick : SpD := fun ds μ Q _ => ∃ p q μr x xs, ds = [.ref p, x] ∧ (x = .lst xs ∨ x = .tup xs) ∧ Deal p q μr μ ∧ xs ≠ [] ∧ xs.length < 1000000 ∧ ∀ d ∈ xs, ∀ μ', Deal p q μr μ' → Q d μ'
theorem atI_in {α : Type} {xs : List α} {r : Int} (h0 : 0 ≤ r) (h1 : r < xs.length) : ∃ d ∈ xs, atI xs r = some d := by
  have h : r.toNat < xs.length := by omega
  have e := atI_nat (xs := xs) (j := r.toNat) (List.getElem?_eq_getElem h)
  rw [Int.toNat_of_nonneg h0] at e
  exact ⟨xs[r.toNat], List.getElem_mem h, e⟩
section
abbrev N_pick : List Str := ["_law_deal_here", "_law_some"]
theorem sc_pick : FnScope N_pick ["_law_deal_here", "_law_some"] (defScope spick) := ⟨rfl, rfl, rfl, by decide +kernel, rfl, by decide +kernel, by decide +kernel⟩
theorem v_pick_deal_here : Nm N_pick (defScope spick) 0 "_law_deal_here" := ⟨rfl, by decide +kernel, by decide +kernel, by decide +kernel⟩
theorem v_pick_some : Nm N_pick (defScope spick) 1 "_law_some" := ⟨rfl, by decide +kernel, by decide +kernel, by decide +kernel⟩
theorem gl_pick_draw : (defScope spick).names.lookup ("_law_draw" : Str) = some .globalImplicit := by decide +kernel
theorem gl_pick_len : (defScope spick).names.lookup ("len" : Str) = some .globalImplicit := by decide +kernel
local macro_rules | `(tactic| walk_at "pd.nm") => `(tactic| first
  | ((with_reducible show ed _ (Expr.Name "_law_deal_here" _) _ _ _); first | refine ed_nm v_pick_deal_here rfl ?_ | refine ed_nmB (sc := defScope spick) v_pick_deal_here rfl ?_)
  | ((with_reducible show ed _ (Expr.Name "_law_some" _) _ _ _); first | refine ed_nm v_pick_some rfl ?_ | refine ed_nmB (sc := defScope spick) v_pick_some rfl ?_)
  | fail)
local macro_rules | `(tactic| walk_at "pd.call") => `(tactic| first
  | ((with_reducible show ed _ (Expr.Call (Expr.Name "_law_draw" _) (_ :: _) _ _) _ _ _); refine ed_callC ((ok_draw (by assumption)).at_ _) (by assumption) (by decide) (g_draw (by assumption)) ?_ (hg := by first | exact gl_of gl_pick_draw))
  | ((with_reducible show ed _ (Expr.Call (Expr.Name "len" _) (_ :: _) _ _) _ _ _); refine ed_callB (id := "len") (b_len (by assumption)) bb_len ?_ (hg := by first | exact gl_of gl_pick_len))
  | fail)
local macro_rules | `(tactic| walk_at "pd.it") => `(tactic| first
  | ((with_reducible show eid _ _ _ _ _ _); refine eid_of ?_)
  | fail)
theorem ok_pick (T : T0 w K mg) : CallD P w K mg base 2 (He.ga K "_law_pick") 2 [] spPick := by
  obtain ⟨fd, F⟩ := f_pick T
  refine CallD.mk0 (ps := ["_law_deal_here", "_law_some"]) F (fun _ _ _ _ _ _ us hl => match us, hl with | [_, _], _ => rfl) (fnD_of F sc_pick fun cdv A outer s H F0 μ ds Qd Ed hr hl h => ?_)
  obtain ⟨p, q, μr, x, xs, rfl, hx, hD, hne, hlen, k⟩ := h
  have hpos : 0 < xs.length := List.length_pos_iff.mpr hne
  show sds _ _ [some (.ref p), some x] _ _
  refine sds_cons ?_
  rcases hx with rfl | rfl
  · walk_at "pd"
    refine ⟨p, q, μr, _, rfl, hD, by omega, by omega, fun r μ' h0 h1 hD' => ?_⟩
    obtain ⟨d, hd, e⟩ := atI_in h0 h1
    exact ixd_lst e (k d hd μ' hD')
  · walk_at "pd"
    refine ⟨p, q, μr, _, rfl, hD, by omega, by omega, fun r μ' h0 h1 hD' => ?_⟩
    obtain ⟨d, hd, e⟩ := atI_in h0 h1
    exact ixd_tup e (k d hd μ' hD')
end
end
section
variable {P : Program} {w : World} {K : PySem.W.Frag} {mg : Str → Option Value} {base : Heap}
theorem slc_int {K : PySem.W.Frag} : PySem.W.kitOne K (.type "slice") (.type "int") = some false := kit_ty (show kitB "slice" "int" = some false by decide +kernel)
/-! ### integers, events -/
def isIntB : D → Bool | .int _ => true | _ => false
def spIsInt : SpD := fun ds μ Q _ => (∃ x, ds = [x] ∧ (tyN x).isSome = true ∧ Q (.bl (isIntB x)) μ) ∨ ∃ l u t, ds = [.slc l u t] ∧ Q (.bl false) μ
section
abbrev N_is_integer : List Str := ["thing"]
theorem sc_is_integer : FnScope N_is_integer ["thing"] (defScope sis_integer) := ⟨rfl, rfl, rfl, by decide +kernel, rfl, by decide +kernel, by decide +kernel⟩
theorem v_is_integer_thing : Nm N_is_integer (defScope sis_integer) 0 "thing" := ⟨rfl, by decide +kernel, by decide +kernel, by decide +kernel⟩
theorem gl_is_integer_bool : (defScope sis_integer).names.lookup ("bool" : Str) = some .globalImplicit := by decide +kernel
theorem gl_is_integer_int : (defScope sis_integer).names.lookup ("int" : Str) = some .globalImplicit := by decide +kernel
theorem gl_is_integer_isinstance : (defScope sis_integer).names.lookup ("isinstance" : Str) = some .globalImplicit := by decide +kernel
local macro_rules | `(tactic| walk_at "pd.nm") => `(tactic| first
  | ((with_reducible show ed _ (Expr.Name "thing" _) _ _ _); first | refine ed_nm v_is_integer_thing rfl ?_ | refine ed_nmB (sc := defScope sis_integer) v_is_integer_thing rfl ?_)
  | ((with_reducible show ed _ (Expr.Name "bool" _) _ _ _); refine ed_ty (n := "bool") (b_bool (by assumption)) bb_bool ?_ (hg := by first | exact gl_of gl_is_integer_bool))
  | ((with_reducible show ed _ (Expr.Name "int" _) _ _ _); refine ed_ty (n := "int") (b_int (by assumption)) bb_int ?_ (hg := by first | exact gl_of gl_is_integer_int))
  | fail)
local macro_rules | `(tactic| walk_at "pd.call") => `(tactic| first
  | ((with_reducible show ed _ (Expr.Call (Expr.Name "isinstance" _) (_ :: _) _ _) _ _ _); refine ed_callB (id := "isinstance") (b_isinstance (by assumption)) bb_isinstance ?_ (hg := by first | exact gl_of gl_is_integer_isinstance))
  | fail)
local macro_rules | `(tactic| walk_at "pd.it") => `(tactic| first
  | ((with_reducible show eid _ _ _ _ _ _); refine eid_of ?_)
  | fail)
theorem ok_is_integer (T : T0 w K mg) : CallD P w K mg base 1 (He.ga K "is_integer") 1 [] spIsInt := by
  obtain ⟨fd, F⟩ := f_is_integer T
  refine CallD.mk0 (ps := ["thing"]) F (fun _ _ _ _ _ _ us hl => match us, hl with | [_], _ => rfl) (fnD_of F sc_is_integer fun cdv A outer s H F0 μ ds Qd Ed hr hl h => ?_)
  rcases h with ⟨x, rfl, hx, q⟩ | ⟨l, u, t, rfl, q⟩
  · show sds _ _ [some x] _ _
    refine sds_cons ?_
    cases x with
    | int i =>
      walk_at "pd"
      exact q
    | bl b =>
      walk_at "pd"
      exact q
    | _ =>
      first
      | (exfalso; revert hx; simp [tyN]; done)
      | (walk_at "pd"; first | exact q | (refine cld_isInt rfl ?_; walk_at "pd"; first | exact q | (refine iteFr rfl ?_; exact q) | exact q))
  · show sds _ _ [some (.slc l u t)] _ _
    refine sds_cons ?_
    walk_at "pd"
    refine cld_isiS slc_int ?_
    walk_at "pd"
    exact q
end
theorem all_map {α : Type} {f : α → Bool} {l : List α} : (l.map f).all id = l.all f := by
  induction l with
  | nil => rfl
  | cons a l ih => rw [List.map_cons, List.all_cons, List.all_cons, ih]; rfl
theorem fm_bl {g : D → D} {f : D → Bool} (h : ∀ y, g y = .bl (f y)) : ∀ ys : List D, (ys.filter (fun _ => true)).map g = (ys.map f).map .bl := fun ys => by
  rw [List.filter_eq_self.mpr fun _ _ => rfl, List.map_map]
  exact List.map_congr_left fun y _ => h y
/-- a number from 0 on -/
def isNatB : D → Bool | .int i => decide (0 ≤ i) | _ => false
def many (k : Str) : Nat := if k ∈ (["new", "join"] : List Str) then 2 else 1
def isEvB : D → Bool
  | .tup (.str k :: xs) => decide (k ∈ (["new", "join", "back", "sweep"] : List Str)) && (xs.all isNatB && decide (xs.length = many k))
  | _ => false
/-- a thing that may be asked whether it is an event -/
structure EvAsk (x : D) : Prop where
  ty : (tyN x).isSome = true
  it : ∀ xs, x = .tup xs → xs.length ≤ 1000 ∧ ∀ y ∈ xs, (tyN y).isSome = true
def spIsEv : SpD := fun ds μ Q _ => ∃ x, ds = [x] ∧ EvAsk x ∧ Q (.bl (isEvB x)) μ
section
abbrev N_is_event : List Str := ["thing", "number"]
theorem sc_is_event : FnScope N_is_event ["thing"] (defScope sis_event) := ⟨rfl, rfl, rfl, by decide +kernel, rfl, by decide +kernel, by decide +kernel⟩
theorem v_is_event_thing : Nm N_is_event (defScope sis_event) 0 "thing" := ⟨rfl, by decide +kernel, by decide +kernel, by decide +kernel⟩
theorem w_is_event_number : NmB N_is_event 1 "number" := ⟨rfl, by decide +kernel, by decide +kernel⟩
theorem gl_is_event_KINDS : (defScope sis_event).names.lookup ("KINDS" : Str) = some .globalImplicit := by decide +kernel
theorem gl_is_event_all : (defScope sis_event).names.lookup ("all" : Str) = some .globalImplicit := by decide +kernel
theorem gl_is_event_isinstance : (defScope sis_event).names.lookup ("isinstance" : Str) = some .globalImplicit := by decide +kernel
theorem gl_is_event_len : (defScope sis_event).names.lookup ("len" : Str) = some .globalImplicit := by decide +kernel
theorem gl_is_event_str : (defScope sis_event).names.lookup ("str" : Str) = some .globalImplicit := by decide +kernel
theorem gl_is_event_tuple : (defScope sis_event).names.lookup ("tuple" : Str) = some .globalImplicit := by decide +kernel
local macro_rules | `(tactic| walk_at "pd.nm") => `(tactic| first
  | ((with_reducible show ed _ (Expr.Name "thing" _) _ _ _); first | refine ed_nm v_is_event_thing rfl ?_ | refine ed_nmB (sc := defScope sis_event) v_is_event_thing rfl ?_)
  | ((with_reducible show ed _ (Expr.Name "number" _) _ _ _); refine ed_nmC (sc := defScope sis_event) w_is_event_number rfl ?_)
  | ((with_reducible show ed _ (Expr.Name "KINDS" _) _ _ _); refine ed_gtup (ys := cst_KINDS) (g_KINDS (by assumption)) (t_KINDS (by assumption)) ?_ (hg := by first | exact gl_of gl_is_event_KINDS))
  | ((with_reducible show ed _ (Expr.Name "str" _) _ _ _); refine ed_ty (n := "str") (b_str (by assumption)) bb_str ?_ (hg := by first | exact gl_of gl_is_event_str))
  | ((with_reducible show ed _ (Expr.Name "tuple" _) _ _ _); refine ed_ty (n := "tuple") (b_tuple (by assumption)) bb_tuple ?_ (hg := by first | exact gl_of gl_is_event_tuple))
  | fail)
local macro_rules | `(tactic| walk_at "pd.g") => `(tactic| first
  | ((with_reducible show gv _ (Expr.Name "number" _) _ _ _ _ _); refine gv_nmC (sc := defScope sis_event) w_is_event_number sc_is_event.nd (by decide) ?_)
  | fail)
local macro_rules | `(tactic| walk_at "pd.call") => `(tactic| first
  | ((with_reducible show ed _ (Expr.Call (Expr.Name "all" _) (_ :: _) _ _) _ _ _); refine ed_callB (id := "all") (b_all (by assumption)) bb_all ?_ (hg := by first | exact gl_of gl_is_event_all))
  | ((with_reducible show ed _ (Expr.Call (Expr.Name "len" _) (_ :: _) _ _) _ _ _); refine ed_callB (id := "len") (b_len (by assumption)) bb_len ?_ (hg := by first | exact gl_of gl_is_event_len))
  | ((with_reducible show ed _ (Expr.Call (Expr.Name "isinstance" _) (_ :: _) _ _) _ _ _); refine ed_callB (id := "isinstance") (b_isinstance (by assumption)) bb_isinstance ?_ (hg := by first | exact gl_of gl_is_event_isinstance))
  | ((with_reducible show ed _ (Expr.Call (Expr.Name "is_integer" _) (_ :: _) _ _) _ _ _); refine ed_callC ((ok_is_integer (by assumption)).at_ _) (by assumption) (by decide) (g_is_integer (by assumption)) ?_ (hg := by first | exact glB_of (sc := defScope sis_event)))
  | fail)
local macro_rules | `(tactic| walk_at "pd.lc") => `(tactic| first
  | ((with_reducible show ed _ (Expr.ListComp _ [_] _ _) _ _ _); refine ed_lc (own := [("number", 1)]) [("number", 1)] rfl rfl sc_is_event.nd (blkOk_by (N := N_is_event) (sc := defScope sis_event) (by decide +kernel)) ?_)
  | fail)
local macro_rules | `(tactic| walk_at "pd.it") => `(tactic| first
  | ((with_reducible show eid _ _ _ _ _ _); refine eid_of ?_)
  | fail)
theorem ok_is_event (T : T0 w K mg) : CallD P w K mg base 2 (He.ga K "is_event") 1 [] spIsEv := by
  obtain ⟨fd, F⟩ := f_is_event T
  refine CallD.mk0 (ps := ["thing"]) F (fun _ _ _ _ _ _ us hl => match us, hl with | [_], _ => rfl) (fnD_of F sc_is_event fun cdv A outer s H F0 μ ds Qd Ed hr hl h => ?_)
  obtain ⟨x, rfl, ⟨hx, hit⟩, q⟩ := h
  show sds _ _ [some x, none] _ _
  refine sds_cons ?_
  cases x with
  | tup ys =>
    obtain ⟨hn, hty⟩ := hit ys rfl
    walk_at "pd"
    cases ys with
    | nil =>
      walk_at "pd"
      refine iteTr rfl ?_
      walk_at "pd"
      exact q
    | cons y xs =>
      refine ifd (fun h => absurd h (by simp; omega)) (fun h => ?_)
      walk_at "pd"
      have hy := hty y List.mem_cons_self
      refine cld_isStr hy ?_
      cases y with
      | str k =>
        walk_at "pd"
        refine ifn (fun h1 => ?_) (fun h1 => ?_)
        · walk_at "pd"
          have e : isEvB (.tup (.str k :: xs)) = false := by
            show (decide (k ∈ (["new", "join", "back", "sweep"] : List Str)) && _) = false
            rw [decide_eq_false (show ¬ k ∈ (["new", "join", "back", "sweep"] : List Str) from h1)]; rfl
          rw [e] at q
          exact q
        have e : isEvB (.tup (.str k :: xs)) = (xs.all isNatB && decide (xs.length = many k)) := by
          show (decide (k ∈ (["new", "join", "back", "sweep"] : List Str)) && _) = _
          rw [decide_eq_true (show k ∈ (["new", "join", "back", "sweep"] : List Str) from h1)]; rfl
        rw [e] at q
        walk_at "pd"
        refine lcd_fm (fun _ => true) (fun d => .bl (isNatB d)) ?_
        walk_at "pd"
        rw [cutD_from (by decide) (by simp; omega)]
        rw [show List.drop (Int.toNat 1) (D.str k :: xs) = xs from rfl]
        refine ⟨by simp at hn; omega, trivial, fun d hd => ?_, ?_⟩
        · have hd2 := hty d (List.mem_cons_of_mem _ hd)
          walk_at "pd"
          refine ⟨rfl, rfl, fun _ => ?_⟩
          walk_at "pd"
          refine Or.inl ⟨d, rfl, hd2, ?_⟩
          cases d with
          | int i =>
            walk_at "pd"
            refine iteTr rfl ?_
            walk_at "pd"
            exact ⟨rfl, rfl⟩
          | _ =>
            walk_at "pd"
            refine iteFr rfl ?_
            exact ⟨rfl, rfl⟩
        rw [fm_bl (f := isNatB) fun _ => rfl]
        walk_at "pd"
        rw [all_map]
        refine ifb (fun h2 => ?_) (fun h2 => ?_)
        · walk_at "pd"
          rw [show xs.all isNatB = false from by simpa using h2] at q
          exact q
        have h2' : xs.all isNatB = true := by simpa using h2
        rw [h2'] at q
        walk_at "pd"
        refine opd_inS ["new", "join"] (.tup _) rfl ?_
        have el : ((D.str k :: xs).length : Int) = (xs.length : Int) + 1 := by simp
        refine exB ?_
        refine ifd (fun h3 => ?_) (fun h3 => ?_)
        · walk_at "pd"
          have e3 : decide (((D.str k :: xs).length : Int) = 3) = decide (xs.length = many k) := by
            unfold many; rw [if_pos h3, el]; exact decide_eq_decide.mpr (by omega)
          rw [e3]
          exact q
        · walk_at "pd"
          have e3 : decide (((D.str k :: xs).length : Int) = 2) = decide (xs.length = many k) := by
            unfold many; rw [if_neg h3, el]; exact decide_eq_decide.mpr (by omega)
          rw [e3]
          exact q
      | _ =>
        walk_at "pd"
        exact q
  | _ =>
    first
    | (exfalso; revert hx; simp [tyN]; done)
    | (walk_at "pd"; first | exact q | (refine cld_isTup rfl ?_; walk_at "pd"; first | exact q | (refine iteTr rfl ?_; walk_at "pd"; exact q)))
end
end
section
variable {P : Program} {w : World} {K : PySem.W.Frag} {mg : Str → Option Value} {base : Heap}
/-! ### histories -/
/-- the first thing that is no event -/
def badAt : Nat → List D → Option Nat
  | _, [] => none
  | i, x :: xs => if isEvB x then badAt (i + 1) xs else some i
theorem badAt_all : ∀ {i : Nat} {xs : List D}, (∀ x ∈ xs, isEvB x = true) → badAt i xs = none
  | _, [], _ => rfl
  | i, x :: xs, h => by
    unfold badAt
    rw [if_pos (h x List.mem_cons_self)]
    exact badAt_all fun y hy => h y (List.mem_cons_of_mem _ hy)
theorem badAt_take : ∀ {i j : Nat} {xs : List D} {x : D}, xs[j]? = some x → (∀ y ∈ xs.take j, isEvB y = true) → isEvB x = false → badAt i xs = some (i + j)
  | i, 0, y :: xs, x, h, _, hx => by
    simp at h; subst h
    unfold badAt; rw [hx]; rfl
  | i, j + 1, y :: xs, x, h, ha, hx => by
    rw [List.getElem?_cons_succ] at h
    unfold badAt
    rw [if_pos (ha y (by simp)), badAt_take (i := i + 1) h (fun z hz => ha z (by simp [hz])) hx]
    congr 1; omega
  | i, j, [], x, h, _, _ => by simp at h
def histD (C : Addr) (es : List D) : D := .obj C ["events"] [.tup es]
/-- what is asked of a history's events: a list or tuple of things that may be asked -/
structure EvsAsk (μ : Mu) (x : D) (xs : List D) : Prop where
  seq : SeqD μ x xs
  n : xs.length ≤ 1000
  it : ∀ y ∈ xs, EvAsk y
def spHistI (K : PySem.W.Frag) : SpD := fun ds μ Q E => ∃ p dx μr x, ds = [.ref p, x] ∧ μ = (p, .ins (He.ga K "History") dx [] []) :: μr ∧
  ((∃ xs, EvsAsk μr x xs ∧ (∀ at_, badAt 0 xs = some at_ → E (.ref (He.ga K "InvalidEvent")) ["at"] [.int (at_ : Nat)] μ) ∧ (badAt 0 xs = none → Q .non ((p, .ins (He.ga K "History") dx ["events"] [.tup xs]) :: μr))) ∨
   ((tyN x).isSome = true ∧ isSeqD x = false ∧ E (.ref (He.ga K "InvalidEvent")) ["at"] [.int 0] μ))
def spSeqG : SpD := fun ds μ Q _ => (∃ x, ds = [x] ∧ (tyN x).isSome = true ∧ Q (.bl (isSeqD x)) μ) ∨ ∃ x xs, ds = [x] ∧ SeqD μ x xs ∧ Q (.bl true) μ
section
abbrev N_is_sequence : List Str := ["thing"]
theorem sc_is_sequence : FnScope N_is_sequence ["thing"] (defScope sis_sequence) := ⟨rfl, rfl, rfl, by decide +kernel, rfl, by decide +kernel, by decide +kernel⟩
theorem v_is_sequence_thing : Nm N_is_sequence (defScope sis_sequence) 0 "thing" := ⟨rfl, by decide +kernel, by decide +kernel, by decide +kernel⟩
theorem gl_is_sequence_isinstance : (defScope sis_sequence).names.lookup ("isinstance" : Str) = some .globalImplicit := by decide +kernel
theorem gl_is_sequence_list : (defScope sis_sequence).names.lookup ("list" : Str) = some .globalImplicit := by decide +kernel
theorem gl_is_sequence_tuple : (defScope sis_sequence).names.lookup ("tuple" : Str) = some .globalImplicit := by decide +kernel
local macro_rules | `(tactic| walk_at "pd.nm") => `(tactic| first
  | ((with_reducible show ed _ (Expr.Name "thing" _) _ _ _); first | refine ed_nm v_is_sequence_thing rfl ?_ | refine ed_nmB (sc := defScope sis_sequence) v_is_sequence_thing rfl ?_)
  | ((with_reducible show ed _ (Expr.Name "list" _) _ _ _); refine ed_ty (n := "list") (b_list (by assumption)) bb_list ?_ (hg := by first | exact gl_of gl_is_sequence_list))
  | ((with_reducible show ed _ (Expr.Name "tuple" _) _ _ _); refine ed_ty (n := "tuple") (b_tuple (by assumption)) bb_tuple ?_ (hg := by first | exact gl_of gl_is_sequence_tuple))
  | fail)
local macro_rules | `(tactic| walk_at "pd.call") => `(tactic| first
  | ((with_reducible show ed _ (Expr.Call (Expr.Name "isinstance" _) (_ :: _) _ _) _ _ _); refine ed_callB (id := "isinstance") (b_isinstance (by assumption)) bb_isinstance ?_ (hg := by first | exact gl_of gl_is_sequence_isinstance))
  | fail)
local macro_rules | `(tactic| walk_at "pd.it") => `(tactic| first
  | ((with_reducible show eid _ _ _ _ _ _); refine eid_of ?_)
  | fail)
theorem ok_is_sequence (T : T0 w K mg) : CallD P w K mg base 1 (He.ga K "is_sequence") 1 [] spSeqG := by
  obtain ⟨fd, F⟩ := f_is_sequence T
  refine CallD.mk0 (ps := ["thing"]) F (fun _ _ _ _ _ _ us hl => match us, hl with | [_], _ => rfl) (fnD_of F sc_is_sequence fun cdv A outer s H F0 μ ds Qd Ed hr hl h => ?_)
  rcases h with ⟨x, rfl, hx, q⟩ | ⟨x, xs, rfl, hx, q⟩
  · show sds _ _ [some x] _ _
    refine sds_cons ?_
    walk_at "pd"
    exact cld_isSeq hx q
  · show sds _ _ [some x] _ _
    refine sds_cons ?_
    walk_at "pd"
    exact cld_isiSeq hx q
end
section
abbrev N_History_init : List Str := ["self", "events", "at", "event"]
theorem sc_History_init : FnScope N_History_init ["self", "events"] (defScope sHistory_init) := ⟨rfl, rfl, rfl, by decide +kernel, rfl, by decide +kernel, by decide +kernel⟩
theorem v_History_init_self : Nm N_History_init (defScope sHistory_init) 0 "self" := ⟨rfl, by decide +kernel, by decide +kernel, by decide +kernel⟩
theorem v_History_init_events : Nm N_History_init (defScope sHistory_init) 1 "events" := ⟨rfl, by decide +kernel, by decide +kernel, by decide +kernel⟩
theorem v_History_init_at : Nm N_History_init (defScope sHistory_init) 2 "at" := ⟨rfl, by decide +kernel, by decide +kernel, by decide +kernel⟩
theorem v_History_init_event : Nm N_History_init (defScope sHistory_init) 3 "event" := ⟨rfl, by decide +kernel, by decide +kernel, by decide +kernel⟩
theorem gl_History_init_InvalidEvent : (defScope sHistory_init).names.lookup ("InvalidEvent" : Str) = some .globalImplicit := by decide +kernel
theorem gl_History_init_enumerate : (defScope sHistory_init).names.lookup ("enumerate" : Str) = some .globalImplicit := by decide +kernel
theorem gl_History_init_is_event : (defScope sHistory_init).names.lookup ("is_event" : Str) = some .globalImplicit := by decide +kernel
theorem gl_History_init_is_sequence : (defScope sHistory_init).names.lookup ("is_sequence" : Str) = some .globalImplicit := by decide +kernel
theorem gl_History_init_tuple : (defScope sHistory_init).names.lookup ("tuple" : Str) = some .globalImplicit := by decide +kernel
local macro_rules | `(tactic| walk_at "pd.nm") => `(tactic| first
  | ((with_reducible show ed _ (Expr.Name "self" _) _ _ _); first | refine ed_nm v_History_init_self rfl ?_ | refine ed_nmB (sc := defScope sHistory_init) v_History_init_self rfl ?_)
  | ((with_reducible show ed _ (Expr.Name "events" _) _ _ _); first | refine ed_nm v_History_init_events rfl ?_ | refine ed_nmB (sc := defScope sHistory_init) v_History_init_events rfl ?_)
  | ((with_reducible show ed _ (Expr.Name "at" _) _ _ _); first | refine ed_nm v_History_init_at rfl ?_ | refine ed_nmB (sc := defScope sHistory_init) v_History_init_at rfl ?_)
  | ((with_reducible show ed _ (Expr.Name "event" _) _ _ _); first | refine ed_nm v_History_init_event rfl ?_ | refine ed_nmB (sc := defScope sHistory_init) v_History_init_event rfl ?_)
  | ((with_reducible show ed _ (Expr.Name "InvalidEvent" _) _ _ _); refine ed_gref (g_InvalidEvent (by assumption)) ?_ (hg := by first | exact gl_of gl_History_init_InvalidEvent))
  | ((with_reducible show ed _ (Expr.Name "enumerate" _) _ _ _); refine ed_ty (n := "enumerate") (b_enumerate (by assumption)) bb_enumerate ?_ (hg := by first | exact gl_of gl_History_init_enumerate))
  | ((with_reducible show ed _ (Expr.Name "tuple" _) _ _ _); refine ed_ty (n := "tuple") (b_tuple (by assumption)) bb_tuple ?_ (hg := by first | exact gl_of gl_History_init_tuple))
  | fail)
local macro_rules | `(tactic| walk_at "pd.set") => `(tactic| first
  | ((with_reducible show sd _ (Stmt.Assign [Expr.Name "at" _] _ _) _ _ _); refine sd_nm v_History_init_at sc_History_init.nd ?_)
  | ((with_reducible show sd _ (Stmt.Assign [Expr.Name "event" _] _ _) _ _ _); refine sd_nm v_History_init_event sc_History_init.nd ?_)
  | fail)
local macro_rules | `(tactic| walk_at "pd.g") => `(tactic| first
  | ((with_reducible show gd _ (Expr.Name "at" _) _ _ _ _); refine gd_nm v_History_init_at sc_History_init.nd ?_)
  | ((with_reducible show gd _ (Expr.Name "event" _) _ _ _ _); refine gd_nm v_History_init_event sc_History_init.nd ?_)
  | fail)
local macro_rules | `(tactic| walk_at "pd.call") => `(tactic| first
  | ((with_reducible show ed _ (Expr.Call (Expr.Name "tuple" _) (_ :: _) _ _) _ _ _); refine ed_callTy (T := "tuple") (b_tuple (by assumption)) bb_tuple ?_ (hg := by first | exact gl_of gl_History_init_tuple))
  | ((with_reducible show ed _ (Expr.Call (Expr.Name "is_sequence" _) (_ :: _) _ _) _ _ _); refine ed_callC ((ok_is_sequence (by assumption)).at_ _) (by assumption) (by decide) (g_is_sequence (by assumption)) ?_ (hg := by first | exact gl_of gl_History_init_is_sequence))
  | ((with_reducible show ed _ (Expr.Call (Expr.Name "is_event" _) (_ :: _) _ _) _ _ _); refine ed_callC ((ok_is_event (by assumption)).at_ _) (by assumption) (by decide) (g_is_event (by assumption)) ?_ (hg := by first | exact gl_of gl_History_init_is_event))
  | fail)
local macro_rules | `(tactic| walk_at "pd.it") => `(tactic| first
  | ((with_reducible show eid _ _ (Expr.Call (Expr.Name "enumerate" _) [_] _ _) _ _ _); refine eid_enumS (b_enumerate (by assumption)) ?_ (hg := by first | exact gl_of gl_History_init_enumerate))
  | ((with_reducible show eid _ _ _ _ _ _); refine eid_of ?_)
  | fail)
local macro_rules | `(tactic| walk_at "pd.sfld") => `(tactic| first
  | ((with_reducible show sd _ (Stmt.Assign [Expr.Attribute _ "events" _] _ _) _ _ _); refine sd_fld (c_History (by assumption)) (n_History_events (by assumption)) ?_)
  | fail)
local macro_rules | `(tactic| walk_at "pd.raise") => `(tactic| first
  | ((with_reducible show sd _ (Stmt.Raise (some (Expr.Call (Expr.Name "InvalidEvent" _) _ _ _)) none _) _ _ _); refine sd_raiseOwn rfl (x_InvalidEvent (by assumption)) (by assumption) (by decide) (g_InvalidEvent (by assumption)) ?_ (hg := by first | exact gl_of gl_History_init_InvalidEvent))
  | fail)
theorem fnd_History_init (T : T0 w K mg) {fd : FuncData} (F : FunD K "__init__" "History.__init__" (defArgs sHistory_init) (defBody sHistory_init) (defScope sHistory_init) (dHistory_init.dvs K) (dHistory_init.kws K) (He.fAd K dHistory_init.at_) fd) {b : Bool} : FnD b P w K mg base 3 (He.fAd K dHistory_init.at_) fd ["self", "events"] (spHistI K) := by
  refine fnD_of F sc_History_init fun cdv A outer s H F0 μ ds Qd Ed hr hl h => ?_
  obtain ⟨p, dx, μr, x, rfl, rfl, h⟩ := h
  show sds _ _ [some (.ref p), some x, none, none] _ _
  refine sds_cons ?_
  rcases h with ⟨xs, ⟨hs, hn, hit⟩, hE, hQ⟩ | ⟨h1, h2, hE⟩
  · have hs' := hs.cons (p, .ins (He.ga K "History") dx [] [])
    walk_at "pd"
    refine Or.inr ⟨x, xs, rfl, hs', ?_⟩
    walk_at "pd"
    refine sd_for rfl ?_
    walk_at "pd"
    refine ⟨fun i δ' μ' => ∃ x2 x3, δ' = [some (.ref p), some x, x2, x3] ∧ μ' = (p, .ins (He.ga K "History") dx [] []) :: μr ∧ ∀ y ∈ xs.take i, isEvB y = true,
      ⟨_, _, rfl, rfl, fun y hy => (List.not_mem_nil hy).elim⟩, ?_, ?_, ?_⟩
    · rintro i δ' μ' hi ⟨x2, x3, rfl, rfl, h⟩
      exact hs'
    · rintro i d δ' μ' hd ⟨x2, x3, rfl, rfl, h⟩
      obtain ⟨y, hy, rfl⟩ := enumD_get hd
      walk_at "pd"
      refine ⟨y, rfl, hit y (List.mem_of_getElem? hy), ?_⟩
      refine exB ?_
      cases e : isEvB y with
      | false =>
        walk_at "pd"
        have hb := badAt_take (i := 0) hy h e
        rw [Nat.zero_add] at hb
        exact hE _ hb
      | true =>
        walk_at "pd"
        refine ⟨_, _, rfl, rfl, fun z hz => ?_⟩
        rw [List.take_succ, hy] at hz
        rcases List.mem_append.mp hz with hz | hz
        · exact h z hz
        · have : z = y := by simpa using hz
          rw [this]; exact e
    · rintro δ' μ' ⟨x2, x3, rfl, rfl, h⟩
      rw [enumD_len, List.take_length] at h
      walk_at "pd"
      refine cld_tuple_seq hs' ?_
      walk_at "pd"
      exact hQ (badAt_all h)
  · walk_at "pd"
    refine Or.inl ⟨x, rfl, h1, ?_⟩
    rw [h2]
    walk_at "pd"
    exact hE
end
/-! ### the class History -/
def spHistC (K : PySem.W.Frag) : SpD := fun ds μ Q E => ∃ x, ds = [x] ∧
  ((∃ xs, EvsAsk μ x xs ∧ (∀ at_ p dx, badAt 0 xs = some at_ → E (.ref (He.ga K "InvalidEvent")) ["at"] [.int (at_ : Nat)] ((p, .ins (He.ga K "History") dx [] []) :: μ)) ∧ (badAt 0 xs = none → Q (histD (He.ga K "History") xs) μ)) ∨
   ((tyN x).isSome = true ∧ isSeqD x = false ∧ ∀ p dx, E (.ref (He.ga K "InvalidEvent")) ["at"] [.int 0] ((p, .ins (He.ga K "History") dx [] []) :: μ)))
theorem histI_C {K : PySem.W.Frag} (ds : List D) (μ : Mu) (Q : D → Mu → Prop) (E : Value → List Str → List D → Mu → Prop) (h : spHistC K ds μ Q E) (p dx : Addr) : spHistI K (.ref p :: ds) ((p, .ins (He.ga K "History") dx [] []) :: μ) (Frz Q p (He.ga K "History") dx) E := by
  obtain ⟨x, rfl, ⟨xs, h1, hE, hQ⟩ | ⟨h1, h2, hE⟩⟩ := h
  · exact ⟨p, dx, μ, x, rfl, rfl, .inl ⟨xs, h1, fun at_ h => hE at_ p dx h, fun h => ⟨rfl, _, _, [], μ, rfl, hQ h⟩⟩⟩
  · exact ⟨p, dx, μ, x, rfl, rfl, .inr ⟨h1, h2, hE p dx⟩⟩
section
theorem cd_History_init (T : T0 w K mg) (n j : Nat) (hn : n + (1 - j) = 2) (dds : List D) (hdd : DfD K dds ((dHistory_init.dvs K).drop j))
    (h : ∀ (T : Addr) (kV doc pm : Value) (an : Option Addr) (cdv ct : Value) (us its : List Value), us.length = n → its.length = 1 →
      ∃ k, bindArgs (PySem.W.fnOf "__init__" "History.__init__" (defArgs sHistory_init) (defBody sHistory_init) (defScope sHistory_init) (.ref T) kV doc pm an cdv ct) ⟨us, []⟩ = seqItems? (.ref T) >>= k ∧ k (some its.toArray) = pure ((["self", "events"] : List Str).zip (us ++ its.drop j))) :
    CallD P w K mg base 3 (He.ma K (He.ga K "History") "__init__") 2 dds (spHistI K) := by
  obtain ⟨fd, F⟩ := f_History_init T
  exact CallD.mkD F (fnd_History_init T F) n j (by intro h; cases h) hn dds hdd h
theorem mk_History_1 (T : T0 w K mg) : MakeD P w K mg base 3 (He.ga K "History") 1 [] (spHistC K) :=
  ⟨_, _, k_History T, cd_History_init T 2 1 rfl [] DfD.nil (fun _ _ _ _ _ _ _ us its h1 h2 => match us, its, h1, h2 with | [_, _], [_], _, _ => ⟨_, rfl, rfl⟩), histI_C⟩
theorem mk_History_0 (T : T0 w K mg) : MakeD P w K mg base 3 (He.ga K "History") 1 [.tup []] (spHistC K) :=
  ⟨_, _, k_History T, cd_History_init T 1 0 rfl [.tup []] (fun F => Dps.cons (dpt (tupAB_ok (t_History_init_0 T) F) Dps.nil) Dps.nil) (fun _ _ _ _ _ _ _ us its h1 h2 => match us, its, h1, h2 with | [_], [_], _, _ => ⟨_, rfl, rfl⟩), histI_C⟩
end
end
section
variable {P : Program} {w : World} {K : PySem.W.Frag} {mg : Str → Option Value} {base : Heap}
/-! ### texts of events -/
def evD (k : Str) (ns : List Nat) : D := .tup (.str k :: ns.map fun n : Nat => .int (n : Int))
def numS (n : Nat) : Str := Str.ofString (toString (n : Int))
def evTxt (e : Str × List Nat) : Str := Txt.join " " (e.1 :: e.2.map numS)
structure EvN (e : Str × List Nat) : Prop where
  k : e.1 ∈ (["new", "join", "back", "sweep"] : List Str)
  n : e.2.length = many e.1
  s : ∀ n ∈ e.2, n < 10000000
theorem many_le (k : Str) : many k ≤ 2 := by unfold many; split <;> omega
theorem kinds_len4 : ∀ k ∈ (["new", "join", "back", "sweep"] : List Str), k.length ≤ 5 := by decide +kernel
theorem numS_tl (n : Nat) : TL.tl (numS n) = TL.numL n := TL.tl_num n
theorem numS_len {n : Nat} (h : n < 10000000) : (numS n).length ≤ 7 := by
  rw [TL.len_tl, numS_tl]; exact TL.numL_len (by decide) h
theorem EvN.ok {e : Str × List Nat} (E : EvN e) : isEvB (evD e.1 e.2) = true := by
  have ha : (e.2.map fun n : Nat => D.int (n : Int)).all isNatB = true := List.all_eq_true.mpr fun y hy => by
    obtain ⟨n, -, rfl⟩ := List.mem_map.mp hy
    show decide (0 ≤ (n : Int)) = true
    exact decide_eq_true (by omega)
  have hl : (e.2.map fun n : Nat => D.int (n : Int)).length = many e.1 := by rw [List.length_map]; exact E.n
  show (decide (e.1 ∈ (["new", "join", "back", "sweep"] : List Str)) && ((e.2.map fun n : Nat => D.int (n : Int)).all isNatB && decide ((e.2.map fun n : Nat => D.int (n : Int)).length = many e.1))) = true
  rw [decide_eq_true E.k, ha, decide_eq_true hl]; rfl
theorem EvN.ask {e : Str × List Nat} (E : EvN e) : EvAsk (evD e.1 e.2) := ⟨rfl, fun xs h => by
  cases h
  refine ⟨by rw [List.length_cons, List.length_map, E.n]; have := many_le e.1; omega, fun y hy => ?_⟩
  rcases List.mem_cons.mp hy with rfl | hy
  · rfl
  · obtain ⟨n, -, rfl⟩ := List.mem_map.mp hy; rfl⟩
theorem EvN.each {e : Str × List Nat} (E : EvN e) : ∀ y ∈ e.1 :: e.2.map numS, y.length ≤ 7 := fun y hy => by
  rcases List.mem_cons.mp hy with rfl | hy
  · have := kinds_len4 _ E.k; omega
  · obtain ⟨n, hn, rfl⟩ := List.mem_map.mp hy; exact numS_len (E.s n hn)
theorem EvN.cnt {e : Str × List Nat} (E : EvN e) : (e.1 :: e.2.map numS).length ≤ 3 := by
  rw [List.length_cons, List.length_map, E.n]; have := many_le e.1; omega
theorem EvN.tlen {e : Str × List Nat} (E : EvN e) : (evTxt e).length ≤ 24 := by
  unfold evTxt
  have h1 := len_join " " (e.1 :: e.2.map numS)
  have h2 := sum_le E.each
  have h3 := E.cnt
  have e1 : (Str.ofString " ").length = 1 := by decide
  rw [e1] at h1; omega
theorem log_ok {n : Nat} (h : n < 10000000) : ((n : Int)).natAbs.log2 < 1920 := by
  have h1 : ((n : Int)).natAbs = n := by omega
  rw [h1]
  by_cases h0 : n = 0
  · subst h0; decide
  · exact (Nat.log2_lt h0).mpr (Nat.lt_of_lt_of_le h (by decide +kernel))
def spEvText : SpD := fun ds μ Q _ => ∃ e, ds = [evD e.1 e.2] ∧ EvN e ∧ Q (.str (evTxt e)) μ
section
abbrev N_event_text : List Str := ["event", "part"]
theorem sc_event_text : FnScope N_event_text ["event"] (defScope sevent_text) := ⟨rfl, rfl, rfl, by decide +kernel, rfl, by decide +kernel, by decide +kernel⟩
theorem v_event_text_event : Nm N_event_text (defScope sevent_text) 0 "event" := ⟨rfl, by decide +kernel, by decide +kernel, by decide +kernel⟩
theorem w_event_text_part : NmB N_event_text 1 "part" := ⟨rfl, by decide +kernel, by decide +kernel⟩
local macro_rules | `(tactic| walk_at "pd.nm") => `(tactic| first
  | ((with_reducible show ed _ (Expr.Name "event" _) _ _ _); first | refine ed_nm v_event_text_event rfl ?_ | refine ed_nmB (sc := defScope sevent_text) v_event_text_event rfl ?_)
  | ((with_reducible show ed _ (Expr.Name "part" _) _ _ _); refine ed_nmC (sc := defScope sevent_text) w_event_text_part rfl ?_)
  | ((with_reducible show ed _ (Expr.Name "str" _) _ _ _); refine ed_ty (n := "str") (b_str (by assumption)) bb_str ?_ (hg := by first | exact glB_of (sc := defScope sevent_text)))
  | fail)
local macro_rules | `(tactic| walk_at "pd.g") => `(tactic| first
  | ((with_reducible show gv _ (Expr.Name "part" _) _ _ _ _ _); refine gv_nmC (sc := defScope sevent_text) w_event_text_part sc_event_text.nd (by decide) ?_)
  | fail)
local macro_rules | `(tactic| walk_at "pd.call") => `(tactic| first
  | ((with_reducible show ed _ (Expr.Call (Expr.Attribute _ "join" _) (_ :: _) _ _) _ _ _); with_reducible refine ed_bm PySem.F.plainAttrs_str PySem.F.slot_str_join PySem.F.type_str_join ?_)
  | ((with_reducible show ed _ (Expr.Call (Expr.Name "str" _) (_ :: _) _ _) _ _ _); refine ed_callTy (T := "str") (b_str (by assumption)) bb_str ?_ (hg := by first | exact glB_of (sc := defScope sevent_text)))
  | fail)
local macro_rules | `(tactic| walk_at "pd.lc") => `(tactic| first
  | ((with_reducible show ed _ (Expr.ListComp _ [_] _ _) _ _ _); refine ed_lc (own := [("part", 1)]) [("part", 1)] rfl rfl sc_event_text.nd (blkOk_by (N := N_event_text) (sc := defScope sevent_text) (by decide +kernel)) ?_)
  | fail)
local macro_rules | `(tactic| walk_at "pd.it") => `(tactic| first
  | ((with_reducible show eid _ _ _ _ _ _); refine eid_of ?_)
  | fail)
theorem ok_event_text (T : T0 w K mg) : CallD P w K mg base 1 (He.ga K "event_text") 1 [] spEvText := by
  obtain ⟨fd, F⟩ := f_event_text T
  refine CallD.mk0 (ps := ["event"]) F (fun _ _ _ _ _ _ us hl => match us, hl with | [_], _ => rfl) (fnD_of F sc_event_text fun cdv A outer s H F0 μ ds Qd Ed hr hl h => ?_)
  obtain ⟨e, rfl, E, q⟩ := h
  have h1 := sum_le E.each
  have h2 := E.cnt
  have e1 : (Str.ofString " ").length = 1 := by decide
  show sds _ _ [some (evD e.1 e.2), none] _ _
  unfold evD
  refine sds_cons ?_
  walk_at "pd"
  refine lcd_ix (fun μ' => μ' = μ) ((e.1 :: e.2.map numS).map .str) ?_
  walk_at "pd"
  refine ⟨by simp at h2 ⊢; omega, by simp, rfl, fun _ _ => trivial, ?_, ?_⟩
  · rintro i d r μ' hd hr rfl
    walk_at "pd"
    refine ⟨rfl, ?_⟩
    walk_at "pd"
    cases i with
    | zero =>
      simp at hd hr
      subst hd hr
      walk_at "pd"
      exact ⟨rfl, rfl⟩
    | succ i =>
      rw [List.getElem?_cons_succ, List.getElem?_map] at hd
      rw [List.map_cons, List.getElem?_cons_succ, List.getElem?_map, List.getElem?_map] at hr
      cases hn : e.2[i]? with
      | none => rw [hn] at hd; cases hd
      | some n =>
        rw [hn] at hd hr
        cases hd
        cases hr
        have hlt := E.s n (List.mem_of_getElem? hn)
        refine cld_strI (log_ok hlt) ⟨rfl, rfl⟩
  · rintro μ' rfl
    walk_at "pd"
    exact mtd_joinS (e.1 :: e.2.map numS) (.lst _) rfl (by rw [e1]; omega) q
end
end
section
variable {P : Program} {w : World} {K : PySem.W.Frag} {mg : Str → Option Value} {base : Heap}
/-! ### events compared -/
def evDs (es : List (Str × List Nat)) : List D := es.map fun e => evD e.1 e.2
theorem oks_nats : ∀ l : List Nat, D.oks (l.map fun n : Nat => D.int (n : Int)) = true
  | [] => by rw [List.map_nil, D.oks]
  | n :: l => by rw [List.map_cons, D.oks, D.ok, oks_nats l]; rfl
theorem depthAll_nats : ∀ l : List Nat, PyData.depthAll (D.pys (l.map fun n : Nat => D.int (n : Int))) ≤ 1
  | [] => by rw [List.map_nil, D.pys, PyData.depthAll]; omega
  | n :: l => by
    have := depthAll_nats l
    rw [List.map_cons, D.pys, D.py, PyData.depthAll, PyData.depth]; omega
theorem eqAll_nats : ∀ a b : List Nat, PyData.eqvAll (D.pys (a.map fun n : Nat => D.int (n : Int))) (D.pys (b.map fun n : Nat => D.int (n : Int))) = decide (a = b)
  | [], [] => by rw [List.map_nil, D.pys, PyData.eqvAll]; rfl
  | [], y :: b => by rw [List.map_nil, List.map_cons, D.pys, D.pys, PyData.eqvAll]; rfl
  | x :: a, [] => by rw [List.map_nil, List.map_cons, D.pys, D.pys, PyData.eqvAll]; rfl
  | x :: a, y :: b => by
    rw [List.map_cons, List.map_cons, D.pys, D.pys, D.py, D.py, PyData.eqvAll, PyData.eqv, eqAll_nats a b]
    by_cases e : x = y
    · subst e; simp
    · have : ((x : Int) == (y : Int)) = false := by
        have h2 : (x : Int) ≠ (y : Int) := fun h => e (by omega)
        exact beq_eq_false_iff_ne.mpr h2
      rw [this, decide_eq_false (fun h => e (List.cons.inj h).1)]; rfl
theorem eqv_ev (e e' : Str × List Nat) : PyData.eqv (evD e.1 e.2).py (evD e'.1 e'.2).py = decide (e = e') := by
  obtain ⟨k, ns⟩ := e
  obtain ⟨k', ns'⟩ := e'
  unfold evD
  rw [D.py, D.py, D.pys, D.pys, D.py, D.py, PyData.eqv, PyData.eqvAll, PyData.eqv, eqAll_nats]
  by_cases h1 : k = k' <;> by_cases h2 : ns = ns' <;> simp [h1, h2]
theorem eqAll_evs : ∀ a b : List (Str × List Nat), PyData.eqvAll (D.pys (evDs a)) (D.pys (evDs b)) = decide (a = b)
  | [], [] => by unfold evDs; rw [List.map_nil, D.pys, PyData.eqvAll]; rfl
  | [], y :: b => by unfold evDs; rw [List.map_nil, List.map_cons, D.pys, D.pys, PyData.eqvAll]; rfl
  | x :: a, [] => by unfold evDs; rw [List.map_nil, List.map_cons, D.pys, D.pys, PyData.eqvAll]; rfl
  | x :: a, y :: b => by
    have ih := eqAll_evs a b
    unfold evDs at ih ⊢
    rw [List.map_cons, List.map_cons, D.pys, D.pys, PyData.eqvAll, eqv_ev, ih]
    by_cases e : x = y
    · subst e; simp
    · rw [decide_eq_false e, decide_eq_false (fun h => e (List.cons.inj h).1)]; rfl
theorem eqD_evs (a b : List (Str × List Nat)) : eqD (.tup (evDs a)) (.tup (evDs b)) = decide (a = b) := by
  unfold eqD; rw [D.py, D.py, PyData.eqv, eqAll_evs]
theorem kinds_okS : ∀ t ∈ (["new", "join", "back", "sweep"] : List Str), PyData.strOk t = true := by decide +kernel
theorem ok_ev {e : Str × List Nat} (E : EvN e) : (evD e.1 e.2).ok = true := by
  unfold evD; rw [D.ok, D.oks, D.ok, PyData.canLay0, kinds_okS _ E.k, oks_nats]; rfl
theorem oks_evs : ∀ {es : List (Str × List Nat)}, (∀ e ∈ es, EvN e) → D.oks (evDs es) = true
  | [], _ => by unfold evDs; rw [List.map_nil, D.oks]
  | e :: es, h => by
    have ih := oks_evs (es := es) fun x hx => h x (List.mem_cons_of_mem _ hx)
    unfold evDs at ih ⊢
    rw [List.map_cons, D.oks, ok_ev (h e List.mem_cons_self), ih]; rfl
theorem depth_ev (e : Str × List Nat) : (evD e.1 e.2).py.depth ≤ 2 := by
  have := depthAll_nats e.2
  unfold evD; rw [D.py, D.pys, D.py, PyData.depth, PyData.depthAll, PyData.depth]; omega
theorem depthAll_evs : ∀ es : List (Str × List Nat), PyData.depthAll (D.pys (evDs es)) ≤ 2
  | [] => by unfold evDs; rw [List.map_nil, D.pys, PyData.depthAll]; omega
  | e :: es => by
    have ih := depthAll_evs es
    have h := depth_ev e
    unfold evDs at ih ⊢
    rw [List.map_cons, D.pys, PyData.depthAll]; omega
theorem ok_evsT {es : List (Str × List Nat)} (h : ∀ e ∈ es, EvN e) : (D.tup (evDs es)).ok = true := by rw [D.ok]; exact oks_evs h
theorem depth_evsT (es : List (Str × List Nat)) : (D.tup (evDs es)).py.depth ≤ 64 := by
  have := depthAll_evs es
  rw [D.py, PyData.depth]; omega
/-! ### the text of a history -/
def histTxt (es : List (Str × List Nat)) : Str := Txt.join "; " (es.map evTxt)
structure EvsN (es : List (Str × List Nat)) : Prop where
  e : ∀ x ∈ es, EvN x
  n : es.length ≤ 100
theorem EvsN.sum {es : List (Str × List Nat)} (E : EvsN es) : ((es.map evTxt).map (·.length)).sum + (es.map evTxt).length * (Str.ofString "; ").length ≤ 10000 := by
  have h1 : ∀ y ∈ es.map evTxt, y.length ≤ 24 := fun y hy => by
    obtain ⟨e, he, rfl⟩ := List.mem_map.mp hy; exact (E.e e he).tlen
  have h2 := sum_le h1
  have e1 : (Str.ofString "; ").length = 2 := by decide
  rw [List.length_map] at h2 ⊢
  have := E.n
  rw [e1]; omega
def spHistStr (K : PySem.W.Frag) : SpD := fun ds μ Q _ => ∃ es, ds = [histD (He.ga K "History") (evDs es)] ∧ EvsN es ∧ Q (.str (histTxt es)) μ
section
abbrev N_History_str : List Str := ["self", "event"]
theorem sc_History_str : FnScope N_History_str ["self"] (defScope sHistory_str) := ⟨rfl, rfl, rfl, by decide +kernel, rfl, by decide +kernel, by decide +kernel⟩
theorem v_History_str_self : Nm N_History_str (defScope sHistory_str) 0 "self" := ⟨rfl, by decide +kernel, by decide +kernel, by decide +kernel⟩
theorem w_History_str_event : NmB N_History_str 1 "event" := ⟨rfl, by decide +kernel, by decide +kernel⟩
local macro_rules | `(tactic| walk_at "pd.nm") => `(tactic| first
  | ((with_reducible show ed _ (Expr.Name "self" _) _ _ _); first | refine ed_nm v_History_str_self rfl ?_ | refine ed_nmB (sc := defScope sHistory_str) v_History_str_self rfl ?_)
  | ((with_reducible show ed _ (Expr.Name "event" _) _ _ _); refine ed_nmC (sc := defScope sHistory_str) w_History_str_event rfl ?_)
  | fail)
local macro_rules | `(tactic| walk_at "pd.g") => `(tactic| first
  | ((with_reducible show gv _ (Expr.Name "event" _) _ _ _ _ _); refine gv_nmC (sc := defScope sHistory_str) w_History_str_event sc_History_str.nd (by decide) ?_)
  | fail)
local macro_rules | `(tactic| walk_at "pd.call") => `(tactic| first
  | ((with_reducible show ed _ (Expr.Call (Expr.Attribute _ "join" _) (_ :: _) _ _) _ _ _); with_reducible refine ed_bm PySem.F.plainAttrs_str PySem.F.slot_str_join PySem.F.type_str_join ?_)
  | ((with_reducible show ed _ (Expr.Call (Expr.Name "event_text" _) (_ :: _) _ _) _ _ _); refine ed_callC ((ok_event_text (by assumption)).at_ _) (by assumption) (by decide) (g_event_text (by assumption)) ?_ (hg := by first | exact glB_of (sc := defScope sHistory_str)))
  | fail)
local macro_rules | `(tactic| walk_at "pd.lc") => `(tactic| first
  | ((with_reducible show ed _ (Expr.ListComp _ [_] _ _) _ _ _); refine ed_lc (own := [("event", 1)]) [("event", 1)] rfl rfl sc_History_str.nd (blkOk_by (N := N_History_str) (sc := defScope sHistory_str) (by decide +kernel)) ?_)
  | fail)
local macro_rules | `(tactic| walk_at "pd.it") => `(tactic| first
  | ((with_reducible show eid _ _ _ _ _ _); refine eid_of ?_)
  | fail)
local macro_rules | `(tactic| walk_at "pd.fld") => `(tactic| first
  | ((with_reducible show ed _ (Expr.Attribute _ "events" _) _ _ _); refine ed_fld (c_History (by assumption)) (n_History_events (by assumption)) ?_)
  | fail)
theorem ok_History_str (T : T0 w K mg) : CallD P w K mg base 2 (He.ma K (He.ga K "History") "__str__") 1 [] (spHistStr K) := by
  obtain ⟨fd, F⟩ := f_History_str T
  refine CallD.mk0 (ps := ["self"]) F (fun _ _ _ _ _ _ us hl => match us, hl with | [_], _ => rfl) (fnD_of F sc_History_str fun cdv A outer s H F0 μ ds Qd Ed hr hl h => ?_)
  obtain ⟨es, rfl, E, q⟩ := h
  have hn := E.n
  show sds _ _ [some (histD _ (evDs es)), none] _ _
  unfold histD
  refine sds_cons ?_
  walk_at "pd"
  refine lcd_ix (fun μ' => μ' = μ) ((es.map evTxt).map .str) ?_
  walk_at "pd"
  refine ⟨by unfold evDs; rw [List.length_map]; omega, by unfold evDs; simp, rfl, fun _ _ => trivial, ?_, ?_⟩
  · rintro i d r μ' hd hr2 rfl
    unfold evDs at hd
    rw [List.getElem?_map] at hd
    rw [List.getElem?_map, List.getElem?_map] at hr2
    cases he : es[i]? with
    | none => rw [he] at hd; cases hd
    | some e =>
      rw [he] at hd hr2
      cases hd
      cases hr2
      walk_at "pd"
      refine ⟨rfl, ?_⟩
      walk_at "pd"
      exact ⟨e, rfl, E.e e (List.mem_of_getElem? he), rfl, rfl⟩
  · rintro μ' rfl
    walk_at "pd"
    exact mtd_joinS (es.map evTxt) (.lst _) rfl (Nat.le_trans E.sum (by decide)) q
end
end
section
variable {P : Program} {w : World} {K : PySem.W.Frag} {mg : Str → Option Value} {base : Heap}
/-! ### histories made of events -/
theorem hist_of {K : PySem.W.Frag} {es : List (Str × List Nat)} {x : D} {μ : Mu} {Q : D → Mu → Prop} {Er : Value → List Str → List D → Mu → Prop} (E : EvsN es) (hx : SeqD μ x (evDs es)) (q : Q (histD (He.ga K "History") (evDs es)) μ) : spHistC K [x] μ Q Er := by
  refine ⟨_, rfl, Or.inl ⟨evDs es, ⟨hx, by unfold evDs; rw [List.length_map]; have := E.n; omega, fun y hy => ?_⟩, fun at_ p dx hb => ?_, fun _ => q⟩⟩
  · obtain ⟨e, he, rfl⟩ := List.mem_map.mp hy
    exact (E.e e he).ask
  · rw [badAt_all fun y hy => by obtain ⟨e, he, rfl⟩ := List.mem_map.mp hy; exact (E.e e he).ok] at hb
    cases hb
theorem histTxt_len {es : List (Str × List Nat)} (E : EvsN es) : (histTxt es).length ≤ 10000 := by
  unfold histTxt; exact Nat.le_trans (len_join _ _) E.sum
end
section
variable {P : Program} {w : World} {K : PySem.W.Frag} {mg : Str → Option Value} {base : Heap}
/-! ### the deal is made -/
def spDeal : SpD := fun ds μ Q _ => ∃ (ns : List Int) (b : Int), ds = [.rl (ns.map .int), .int b] ∧ 0 ≤ b ∧ b ≤ 62 ∧ ns.length ≤ 63 ∧ ∀ p q μ', Deal p q μ μ' → Q (.ref p) μ'
section
abbrev N_deal : List Str := ["_law_script", "_law_base", "_law_cells", "_law_cell", "_law_mixed"]
theorem sc_deal : FnScope N_deal ["_law_script", "_law_base"] (defScope sdeal) := ⟨rfl, rfl, rfl, by decide +kernel, rfl, by decide +kernel, by decide +kernel⟩
theorem v_deal_script : Nm N_deal (defScope sdeal) 0 "_law_script" := ⟨rfl, by decide +kernel, by decide +kernel, by decide +kernel⟩
theorem v_deal_base : Nm N_deal (defScope sdeal) 1 "_law_base" := ⟨rfl, by decide +kernel, by decide +kernel, by decide +kernel⟩
theorem v_deal_cells : Nm N_deal (defScope sdeal) 2 "_law_cells" := ⟨rfl, by decide +kernel, by decide +kernel, by decide +kernel⟩
theorem v_deal_cell : Nm N_deal (defScope sdeal) 3 "_law_cell" := ⟨rfl, by decide +kernel, by decide +kernel, by decide +kernel⟩
theorem w_deal_cell : NmB N_deal 3 "_law_cell" := ⟨rfl, by decide +kernel, by decide +kernel⟩
theorem v_deal_mixed : Nm N_deal (defScope sdeal) 4 "_law_mixed" := ⟨rfl, by decide +kernel, by decide +kernel, by decide +kernel⟩
theorem gl_deal_int : (defScope sdeal).names.lookup ("int" : Str) = some .globalImplicit := by decide +kernel
theorem sl_deal_cells : (defScope sdeal).names.lookup ("_law_cells" : Str) = some .local := by decide +kernel
theorem sl_deal_cell : (defScope sdeal).names.lookup ("_law_cell" : Str) = some .local := by decide +kernel
theorem sl_deal_mixed : (defScope sdeal).names.lookup ("_law_mixed" : Str) = some .local := by decide +kernel
local macro_rules | `(tactic| walk_at "pd.nm") => `(tactic| first
  | ((with_reducible show ed _ (Expr.Name "_law_script" _) _ _ _); first | refine ed_nm v_deal_script rfl ?_ | refine ed_nmB (sc := defScope sdeal) v_deal_script rfl ?_)
  | ((with_reducible show ed _ (Expr.Name "_law_base" _) _ _ _); first | refine ed_nm v_deal_base rfl ?_ | refine ed_nmB (sc := defScope sdeal) v_deal_base rfl ?_)
  | ((with_reducible show ed _ (Expr.Name "_law_cells" _) _ _ _); first | refine ed_nm v_deal_cells rfl ?_ | refine ed_nmB (sc := defScope sdeal) v_deal_cells rfl ?_)
  | ((with_reducible show ed _ (Expr.Name "_law_cell" _) _ _ _); first | refine ed_nm v_deal_cell rfl ?_ | refine ed_nmB (sc := defScope sdeal) v_deal_cell rfl ?_)
  | ((with_reducible show ed _ (Expr.Name "_law_cell" _) _ _ _); refine ed_nmC (sc := defScope sdeal) w_deal_cell rfl ?_)
  | ((with_reducible show ed _ (Expr.Name "_law_mixed" _) _ _ _); first | refine ed_nm v_deal_mixed rfl ?_ | refine ed_nmB (sc := defScope sdeal) v_deal_mixed rfl ?_)
  | ((with_reducible show ed _ (Expr.Name "int" _) _ _ _); refine ed_ty (n := "int") (b_int (by assumption)) bb_int ?_ (hg := by first | exact gl_of gl_deal_int | exact glB_of (sc := defScope sdeal)))
  | fail)
local macro_rules | `(tactic| walk_at "pd.set") => `(tactic| first
  | ((with_reducible show sd _ (Stmt.Assign [Expr.Name "_law_cells" _] (Expr.ListComp _ _ _ _) _) _ _ _); refine sd_setLc (own := [("_law_cell", 3)]) (i := 2) rfl sc_deal.nd rfl (by exact sl_deal_cells) (sw_true rfl (by exact sl_deal_cells) rfl (by decide +kernel)) (blkOk_by (N := N_deal) (sc := defScope sdeal) (by decide +kernel)) ?_)
  | ((with_reducible show sd _ (Stmt.Assign [Expr.Name "_law_cell" _] (Expr.ListComp _ _ _ _) _) _ _ _); refine sd_setLc (own := [("_law_cell", 3)]) (i := 3) rfl sc_deal.nd rfl (by exact sl_deal_cell) (sw_true rfl (by exact sl_deal_cell) rfl (by decide +kernel)) (blkOk_by (N := N_deal) (sc := defScope sdeal) (by decide +kernel)) ?_)
  | ((with_reducible show sd _ (Stmt.Assign [Expr.Name "_law_mixed" _] (Expr.ListComp _ _ _ _) _) _ _ _); refine sd_setLc (own := [("_law_cell", 3)]) (i := 4) rfl sc_deal.nd rfl (by exact sl_deal_mixed) (sw_true rfl (by exact sl_deal_mixed) rfl (by decide +kernel)) (blkOk_by (N := N_deal) (sc := defScope sdeal) (by decide +kernel)) ?_)
  | ((with_reducible show sd _ (Stmt.Assign [Expr.Name "_law_cells" _] _ _) _ _ _); refine sd_nm v_deal_cells sc_deal.nd ?_)
  | ((with_reducible show sd _ (Stmt.Assign [Expr.Name "_law_cell" _] _ _) _ _ _); refine sd_nm v_deal_cell sc_deal.nd ?_)
  | ((with_reducible show sd _ (Stmt.Assign [Expr.Name "_law_mixed" _] _ _) _ _ _); refine sd_nm v_deal_mixed sc_deal.nd ?_)
  | fail)
local macro_rules | `(tactic| walk_at "pd.g") => `(tactic| first
  | ((with_reducible show gd _ (Expr.Name "_law_cells" _) _ _ _ _); refine gd_nm v_deal_cells sc_deal.nd ?_)
  | ((with_reducible show gd _ (Expr.Name "_law_cell" _) _ _ _ _); refine gd_nm v_deal_cell sc_deal.nd ?_)
  | ((with_reducible show gv _ (Expr.Name "_law_cell" _) _ _ _ _ _); refine gv_nmC (sc := defScope sdeal) w_deal_cell sc_deal.nd (by decide) ?_)
  | ((with_reducible show gd _ (Expr.Name "_law_mixed" _) _ _ _ _); refine gd_nm v_deal_mixed sc_deal.nd ?_)
  | fail)
local macro_rules | `(tactic| walk_at "pd.call") => `(tactic| first
  | ((with_reducible show ed _ (Expr.Call (Expr.Name "abs" _) (_ :: _) _ _) _ _ _); refine ed_callB (id := "abs") (b_abs (by assumption)) bb_abs ?_ (hg := by first | exact glB_of (sc := defScope sdeal)))
  | ((with_reducible show ed _ (Expr.Call (Expr.Name "int" _) (_ :: _) _ _) _ _ _); refine ed_callTy (T := "int") (b_int (by assumption)) bb_int ?_ (hg := by first | exact gl_of gl_deal_int | exact glB_of (sc := defScope sdeal)))
  | fail)
local macro_rules | `(tactic| walk_at "pd.lc") => `(tactic| first
  | ((with_reducible show ed _ (Expr.ListComp _ [_] _ _) _ _ _); refine ed_lc (own := [("_law_cell", 3)]) [("_law_cell", 3)] rfl rfl sc_deal.nd (blkOk_by (N := N_deal) (sc := defScope sdeal) (by decide +kernel)) ?_)
  | fail)
local macro_rules | `(tactic| walk_at "pd.it") => `(tactic| first
  | ((with_reducible show eid _ _ _ _ _ _); refine eid_of ?_)
  | fail)
theorem ok_deal (T : T0 w K mg) : CallD P w K mg base 1 (He.ga K "_law_deal") 2 [] spDeal := by
  obtain ⟨fd, F⟩ := f_deal T
  refine CallD.mk0 (ps := ["_law_script", "_law_base"]) F (fun _ _ _ _ _ _ us hl => match us, hl with | [_, _], _ => rfl) (fnD_of F sc_deal fun cdv A outer s H F0 μ ds Qd Ed hr hl h => ?_)
  obtain ⟨ns, b, rfl, hb0, hb1, hn, k⟩ := h
  have hu := hr.units
  show sds _ _ [some (.rl (ns.map .int)), some (.int b), none, none, none] _ _
  refine sds_cons ?_
  walk_at "pd"
  refine lcd_fm (fun _ => true) (fun d => .int (if intOf d < 0 then -intOf d else intOf d)) ?_
  walk_at "pd"
  obtain ⟨ys, e, h1, -⟩ := cut_ints ns (some b) (some 62)
  rw [e]
  refine ⟨by rw [List.length_map]; omega, trivial, fun d hd => ?_, ?_⟩
  · obtain ⟨z, hz, rfl⟩ := List.mem_map.mp hd
    walk_at "pd"
    refine ⟨rfl, rfl, fun _ => ?_⟩
    walk_at "pd"
    exact ⟨rfl, rfl⟩
  · rw [fm_ints _ _ (fun z => if z < 0 then -z else z) (fun _ => rfl)]
    have hl : ((ys.filter (fun _ => true)).map (fun z : Int => if z < 0 then -z else z)).length ≤ 63 := by
      rw [List.length_map]; exact Nat.le_trans (List.length_filter_le _ _) (by omega)
    have h0 : ∀ z ∈ (ys.filter (fun _ => true)).map (fun z : Int => if z < 0 then -z else z), 0 ≤ z := by
      intro z hz
      obtain ⟨y, -, rfl⟩ := List.mem_map.mp hz
      show 0 ≤ if y < 0 then -y else y; split <;> omega
    generalize (ys.filter (fun _ => true)).map (fun z : Int => if z < 0 then -z else z) = cs at hl h0 ⊢
    walk_at "pd"
    refine sd_for rfl ?_
    walk_at "pd"
    refine ⟨fun i δ' μ' => ∃ x m, δ' = [some (.rl (ns.map .int)), some (.int b), some (.lst (cs.map .int)), x, some (.int m)] ∧ μ' = μ ∧ 0 ≤ m ∧ m < 2147483647, ⟨none, _, rfl, rfl, by omega, by omega⟩, fun _ _ _ _ _ => trivial, ?_, ?_⟩
    · rintro i d δ' μ' hd ⟨x, m, rfl, rfl, m0, m1⟩
      obtain ⟨z, hz, rfl⟩ := List.mem_map.mp (List.mem_of_getElem? hd)
      have z0 := h0 z hz
      walk_at "pd"
      exact ⟨_, _, rfl, rfl, Int.emod_nonneg _ (by decide), Int.emod_lt_of_pos _ (by decide)⟩
    · rintro δ' μ' ⟨x, m, rfl, rfl, m0, m1⟩
      refine sds_cons ?_
      refine sd_ret ?_
      refine ed_lstO ?_
      refine ea_cons ?_
      refine ed_revO ?_
      walk_at "pd"
      refine lcd_fm (fun d => decide (10 ^ 18 ≤ intOf d)) (fun d => d) ?_
      walk_at "pd"
      refine ⟨by rw [List.length_map]; omega, trivial, fun d hd => ?_, ?_⟩
      · obtain ⟨z, hz, rfl⟩ := List.mem_map.mp hd
        walk_at "pd"
        refine ⟨rfl, rfl, fun _ => ?_⟩
        walk_at "pd"
        exact ⟨rfl, rfl⟩
      · rw [fm_ints _ _ (fun z => z) (fun _ => rfl)]
        refine ⟨_, rfl, fun q => ?_⟩
        walk_at "pd"
        refine fun p => k p q _ ⟨(cs.filter (fun z => decide (10 ^ 18 ≤ z))).reverse, m, ⟨m0, m1, fun z hz => h0 z ?_, ?_⟩, ?_⟩
        · exact (List.mem_filter.mp (List.mem_reverse.mp hz)).1
        · rw [List.length_reverse]; exact Nat.le_trans (List.length_filter_le _ _) (by omega)
        · simp [dealM, intOf]; rfl
end
end
section
variable {P : Program} {w : World} {K : PySem.W.Frag} {mg : Str → Option Value} {base : Heap}
/-! ### drawn events -/
/-- an event whose numbers are below m -/
structure EvB (e : Str × List Nat) (m : Nat) : Prop where
  k : e.1 ∈ (["new", "join", "back", "sweep"] : List Str)
  n : e.2.length = many e.1
  s : ∀ n ∈ e.2, n < m
theorem EvB.evN {e : Str × List Nat} {m : Nat} (E : EvB e m) (h : m ≤ 10000000) : EvN e := ⟨E.k, E.n, fun n hn => Nat.lt_of_lt_of_le (E.s n hn) h⟩
def spEvent : SpD := fun ds μ Q _ => ∃ p q μr r f, ds = [.ref p, .int r, .int f] ∧ Deal p q μr μ ∧ 0 < r ∧ r ≤ 1000 ∧ 0 < f ∧ f ≤ 1000 ∧ ∀ e μ', EvB e 1000 → (∀ n ∈ e.2, (n : Int) < max r f) → Deal p q μr μ' → Q (evD e.1 e.2) μ'
section
abbrev N_event : List Str := ["_law_deal_here", "_law_records", "_law_references", "_law_kind"]
theorem sc_event : FnScope N_event ["_law_deal_here", "_law_records", "_law_references"] (defScope sevent) := ⟨rfl, rfl, rfl, by decide +kernel, rfl, by decide +kernel, by decide +kernel⟩
theorem v_event_deal_here : Nm N_event (defScope sevent) 0 "_law_deal_here" := ⟨rfl, by decide +kernel, by decide +kernel, by decide +kernel⟩
theorem v_event_records : Nm N_event (defScope sevent) 1 "_law_records" := ⟨rfl, by decide +kernel, by decide +kernel, by decide +kernel⟩
theorem v_event_references : Nm N_event (defScope sevent) 2 "_law_references" := ⟨rfl, by decide +kernel, by decide +kernel, by decide +kernel⟩
theorem v_event_kind : Nm N_event (defScope sevent) 3 "_law_kind" := ⟨rfl, by decide +kernel, by decide +kernel, by decide +kernel⟩
theorem gl_event_draw : (defScope sevent).names.lookup ("_law_draw" : Str) = some .globalImplicit := by decide +kernel
theorem gl_event_pick : (defScope sevent).names.lookup ("_law_pick" : Str) = some .globalImplicit := by decide +kernel
local macro_rules | `(tactic| walk_at "pd.nm") => `(tactic| first
  | ((with_reducible show ed _ (Expr.Name "_law_deal_here" _) _ _ _); first | refine ed_nm v_event_deal_here rfl ?_ | refine ed_nmB (sc := defScope sevent) v_event_deal_here rfl ?_)
  | ((with_reducible show ed _ (Expr.Name "_law_records" _) _ _ _); first | refine ed_nm v_event_records rfl ?_ | refine ed_nmB (sc := defScope sevent) v_event_records rfl ?_)
  | ((with_reducible show ed _ (Expr.Name "_law_references" _) _ _ _); first | refine ed_nm v_event_references rfl ?_ | refine ed_nmB (sc := defScope sevent) v_event_references rfl ?_)
  | ((with_reducible show ed _ (Expr.Name "_law_kind" _) _ _ _); first | refine ed_nm v_event_kind rfl ?_ | refine ed_nmB (sc := defScope sevent) v_event_kind rfl ?_)
  | fail)
local macro_rules | `(tactic| walk_at "pd.set") => `(tactic| first
  | ((with_reducible show sd _ (Stmt.Assign [Expr.Name "_law_kind" _] _ _) _ _ _); refine sd_nm v_event_kind sc_event.nd ?_)
  | fail)
local macro_rules | `(tactic| walk_at "pd.g") => `(tactic| first
  | ((with_reducible show gd _ (Expr.Name "_law_kind" _) _ _ _ _); refine gd_nm v_event_kind sc_event.nd ?_)
  | fail)
local macro_rules | `(tactic| walk_at "pd.call") => `(tactic| first
  | ((with_reducible show ed _ (Expr.Call (Expr.Name "_law_pick" _) (_ :: _) _ _) _ _ _); refine ed_callC ((ok_pick (by assumption)).at_ _) (by assumption) (by decide) (g_pick (by assumption)) ?_ (hg := by first | exact gl_of gl_event_pick))
  | ((with_reducible show ed _ (Expr.Call (Expr.Name "_law_draw" _) (_ :: _) _ _) _ _ _); refine ed_callC ((ok_draw (by assumption)).at_ _) (by assumption) (by decide) (g_draw (by assumption)) ?_ (hg := by first | exact gl_of gl_event_draw))
  | fail)
local macro_rules | `(tactic| walk_at "pd.it") => `(tactic| first
  | ((with_reducible show eid _ _ _ _ _ _); refine eid_of ?_)
  | fail)
theorem ok_event (T : T0 w K mg) : CallD P w K mg base 3 (He.ga K "_law_event") 3 [] spEvent := by
  obtain ⟨fd, F⟩ := f_event T
  refine CallD.mk0 (ps := ["_law_deal_here", "_law_records", "_law_references"]) F (fun _ _ _ _ _ _ us hl => match us, hl with | [_, _, _], _ => rfl) (fnD_of F sc_event fun cdv A outer s H F0 μ ds Qd Ed hr hl h => ?_)
  obtain ⟨p, q, μr, r, f, rfl, hD, r0, r1, f0, f1, k⟩ := h
  show sds _ _ [some (.ref p), some (.int r), some (.int f), none] _ _
  refine sds_cons ?_
  walk_at "pd"
  refine ⟨p, q, μr, _, _, rfl, Or.inl rfl, hD, by simp, by simp, fun d hd μ1 hD1 => ?_⟩
  have hk : ∃ kd, d = .str kd ∧ kd ∈ (["new", "join", "back", "sweep"] : List Str) := by
    simp only [List.mem_cons, List.mem_nil_iff, or_false] at hd
    rcases hd with rfl | rfl | rfl | rfl | rfl | rfl | rfl | rfl <;> exact ⟨_, rfl, by decide⟩
  obtain ⟨kd, rfl, hkd⟩ := hk
  walk_at "pd"
  refine ifd (fun e => ?_) (fun e => ?_)
  · subst e
    walk_at "pd"
    refine ⟨p, q, μr, _, rfl, hD1, by omega, by omega, fun a μ2 a0 a1 hD2 => ?_⟩
    walk_at "pd"
    refine ⟨p, q, μr, _, rfl, hD2, by omega, by omega, fun b μ3 b0 b1 hD3 => ?_⟩
    walk_at "pd"
    have := k ("new", [a.toNat, b.toNat]) μ3 ⟨hkd, rfl, fun n hn => ?_⟩ (fun n hn => ?_) hD3
    · unfold evD at this
      simp only [List.map_cons, List.map_nil, Int.toNat_of_nonneg a0, Int.toNat_of_nonneg b0] at this
      exact this
    · simp at hn; rcases hn with rfl | rfl <;> omega
    · simp at hn; rcases hn with rfl | rfl <;> omega
  walk_at "pd"
  refine ifd (fun e2 => ?_) (fun e2 => ?_)
  · subst e2
    walk_at "pd"
    refine ⟨p, q, μr, _, rfl, hD1, by omega, by omega, fun a μ2 a0 a1 hD2 => ?_⟩
    walk_at "pd"
    refine ⟨p, q, μr, _, rfl, hD2, by omega, by omega, fun b μ3 b0 b1 hD3 => ?_⟩
    walk_at "pd"
    have := k ("join", [a.toNat, b.toNat]) μ3 ⟨hkd, rfl, fun n hn => ?_⟩ (fun n hn => ?_) hD3
    · unfold evD at this
      simp only [List.map_cons, List.map_nil, Int.toNat_of_nonneg a0, Int.toNat_of_nonneg b0] at this
      exact this
    · simp at hn; rcases hn with rfl | rfl <;> omega
    · simp at hn; rcases hn with rfl | rfl <;> omega
  · walk_at "pd"
    refine ⟨p, q, μr, _, rfl, hD1, by omega, by omega, fun a μ2 a0 a1 hD2 => ?_⟩
    walk_at "pd"
    have := k (kd, [a.toNat]) μ2 ⟨hkd, ?_, fun n hn => ?_⟩ (fun n hn => ?_) hD2
    · unfold evD at this
      simp only [List.map_cons, List.map_nil, Int.toNat_of_nonneg a0] at this
      exact this
    · show 1 = many kd
      unfold many
      rw [if_neg (by simp; exact ⟨e, e2⟩)]
    · simp at hn; subst hn; omega
    · simp at hn; subst hn; omega
end
def spEvents : SpD := fun ds μ Q _ => ∃ p q μr m r f, ds = [.ref p, .int m, .int r, .int f] ∧ Deal p q μr μ ∧ 0 ≤ m ∧ m ≤ 90 ∧ 0 < r ∧ r ≤ 1000 ∧ 0 < f ∧ f ≤ 1000 ∧ ∀ es μ', (∀ e ∈ es, EvB e 1000 ∧ ∀ n ∈ e.2, (n : Int) < max r f) → (es.length : Int) ≤ m → Deal p q μr μ' → Q (.lst (evDs es)) μ'
section
abbrev N_events : List Str := ["_law_deal_here", "_law_many", "_law_records", "_law_references", "_law_found"]
theorem sc_events : FnScope N_events ["_law_deal_here", "_law_many", "_law_records", "_law_references"] (defScope sevents) := ⟨rfl, rfl, rfl, by decide +kernel, rfl, by decide +kernel, by decide +kernel⟩
theorem v_events_deal_here : Nm N_events (defScope sevents) 0 "_law_deal_here" := ⟨rfl, by decide +kernel, by decide +kernel, by decide +kernel⟩
theorem v_events_many : Nm N_events (defScope sevents) 1 "_law_many" := ⟨rfl, by decide +kernel, by decide +kernel, by decide +kernel⟩
theorem v_events_records : Nm N_events (defScope sevents) 2 "_law_records" := ⟨rfl, by decide +kernel, by decide +kernel, by decide +kernel⟩
theorem v_events_references : Nm N_events (defScope sevents) 3 "_law_references" := ⟨rfl, by decide +kernel, by decide +kernel, by decide +kernel⟩
theorem v_events_found : Nm N_events (defScope sevents) 4 "_law_found" := ⟨rfl, by decide +kernel, by decide +kernel, by decide +kernel⟩
theorem gl_events_draw : (defScope sevents).names.lookup ("_law_draw" : Str) = some .globalImplicit := by decide +kernel
theorem gl_events_event : (defScope sevents).names.lookup ("_law_event" : Str) = some .globalImplicit := by decide +kernel
theorem gl_events_len : (defScope sevents).names.lookup ("len" : Str) = some .globalImplicit := by decide +kernel
local macro_rules | `(tactic| walk_at "pd.nm") => `(tactic| first
  | ((with_reducible show ed _ (Expr.Name "_law_deal_here" _) _ _ _); first | refine ed_nm v_events_deal_here rfl ?_ | refine ed_nmB (sc := defScope sevents) v_events_deal_here rfl ?_)
  | ((with_reducible show ed _ (Expr.Name "_law_many" _) _ _ _); first | refine ed_nm v_events_many rfl ?_ | refine ed_nmB (sc := defScope sevents) v_events_many rfl ?_)
  | ((with_reducible show ed _ (Expr.Name "_law_records" _) _ _ _); first | refine ed_nm v_events_records rfl ?_ | refine ed_nmB (sc := defScope sevents) v_events_records rfl ?_)
  | ((with_reducible show ed _ (Expr.Name "_law_references" _) _ _ _); first | refine ed_nm v_events_references rfl ?_ | refine ed_nmB (sc := defScope sevents) v_events_references rfl ?_)
  | ((with_reducible show ed _ (Expr.Name "_law_found" _) _ _ _); first | refine ed_nm v_events_found rfl ?_ | refine ed_nmB (sc := defScope sevents) v_events_found rfl ?_)
  | fail)
local macro_rules | `(tactic| walk_at "pd.set") => `(tactic| first
  | ((with_reducible show sd _ (Stmt.Assign [Expr.Name "_law_found" _] _ _) _ _ _); refine sd_nm v_events_found sc_events.nd ?_)
  | fail)
local macro_rules | `(tactic| walk_at "pd.g") => `(tactic| first
  | ((with_reducible show gd _ (Expr.Name "_law_found" _) _ _ _ _); refine gd_nm v_events_found sc_events.nd ?_)
  | fail)
local macro_rules | `(tactic| walk_at "pd.call") => `(tactic| first
  | ((with_reducible show ed _ (Expr.Call (Expr.Attribute _ "append" _) (_ :: _) _ _) _ _ _); with_reducible refine ed_bm PySem.F.plainAttrs_list PySem.F.slot_list_append PySem.F.type_list_append ?_)
  | ((with_reducible show ed _ (Expr.Call (Expr.Name "len" _) (_ :: _) _ _) _ _ _); refine ed_callB (id := "len") (b_len (by assumption)) bb_len ?_ (hg := by first | exact gl_of gl_events_len))
  | ((with_reducible show ed _ (Expr.Call (Expr.Name "_law_draw" _) (_ :: _) _ _) _ _ _); refine ed_callC ((ok_draw (by assumption)).at_ _) (by assumption) (by decide) (g_draw (by assumption)) ?_ (hg := by first | exact gl_of gl_events_draw))
  | ((with_reducible show ed _ (Expr.Call (Expr.Name "_law_event" _) (_ :: _) _ _) _ _ _); refine ed_callC ((ok_event (by assumption)).at_ _) (by assumption) (by decide) (g_event (by assumption)) ?_ (hg := by first | exact gl_of gl_events_event))
  | fail)
local macro_rules | `(tactic| walk_at "pd.it") => `(tactic| first
  | ((with_reducible show eid _ _ _ _ _ _); refine eid_of ?_)
  | fail)
local macro_rules | `(tactic| walk_at "pd.lst") => `(tactic| refine ed_lstO ?_)
theorem ok_events (T : T0 w K mg) : CallD P w K mg base 4 (He.ga K "_law_events") 4 [] spEvents := by
  obtain ⟨fd, F⟩ := f_events T
  refine CallD.mk0 (ps := ["_law_deal_here", "_law_many", "_law_records", "_law_references"]) F (fun _ _ _ _ _ _ us hl => match us, hl with | [_, _, _, _], _ => rfl) (fnD_of F sc_events fun cdv A outer s H F0 μ ds Qd Ed hr hl h => ?_)
  obtain ⟨p, q, μr, m, r, f, rfl, ⟨l, mm, hL, rfl⟩, m0, m1, r0, r1, f0, f1, k⟩ := h
  show sds _ _ [some (.ref p), some (.int m), some (.int r), some (.int f), none] _ _
  refine sds_cons ?_
  walk_at "pdS"
  intro g
  refine sds_mu (dealM p q l mm ++ (g, .lst []) :: μr) List.perm_middle.symm ?_
  refine sds_cut (fun δ' μ' => ∃ es, δ' = [some (.ref p), some (.int m), some (.int r), some (.int f), some (.ref g)] ∧ Deal p q ((g, .lst (evDs es)) :: μr) μ' ∧ (es.length : Int) ≤ m ∧ ∀ e ∈ es, EvB e 1000 ∧ ∀ n ∈ e.2, (n : Int) < max r f) ?_ ?_
  · refine sd_while (fun x δ' μ' => ∃ es, δ' = [some (.ref p), some (.int m), some (.int r), some (.int f), some (.ref g)] ∧ Deal p q ((g, .lst (evDs es)) :: μr) μ' ∧ (es.length : Int) ≤ m ∧ (∀ e ∈ es, EvB e 1000 ∧ ∀ n ∈ e.2, (n : Int) < max r f) ∧ (x : Int) = m - es.length) m.toNat ⟨[], rfl, ⟨l, mm, hL, rfl⟩, m0, fun _ h => (List.not_mem_nil h).elim, by simp; omega⟩ ?_
    rintro x δ' μ' ⟨es, rfl, ⟨l', m', hL', rfl⟩, hl', he, hx⟩
    have el : ((evDs es).length : Int) = es.length := by unfold evDs; rw [List.length_map]
    walk_at "pd"
    refine ifd (fun h1 => ?_) (fun h1 => ?_)
    · rw [el] at h1
      walk_at "pd"
      refine ⟨p, q, _, _, rfl, ⟨l', m', hL', rfl⟩, by omega, by omega, fun a μ2 a0 a1 hD2 => ?_⟩
      walk_at "pd"
      refine ifd (fun h2 => ?_) (fun h2 => ?_)
      · obtain ⟨l2, m2, hL2, rfl⟩ := hD2
        walk_at "pd"
        refine ⟨p, q, _, _, _, rfl, ⟨l2, m2, hL2, rfl⟩, by omega, by omega, by omega, by omega, fun e μ3 he1 he2 hD3 => ?_⟩
        obtain ⟨l3, m3, hL3, rfl⟩ := hD3
        walk_at "pd"
        refine mtd_append (μ1 := dealM p q l3 m3) (small_lt (by unfold evDs; rw [List.length_map]; omega)) ?_
        walk_at "pd"
        refine ⟨x - 1, by omega, es ++ [e], rfl, ⟨l3, m3, hL3, by unfold evDs; rw [List.map_append]; rfl⟩, by simp; omega, fun e' he' => ?_, by simp; omega⟩
        rcases List.mem_append.mp he' with h | h
        · exact he e' h
        · rw [List.mem_singleton.mp h]; exact ⟨he1, he2⟩
      · walk_at "pd"
        exact ⟨es, rfl, hD2, hl', he⟩
    · walk_at "pd"
      exact ⟨es, rfl, ⟨l', m', hL', rfl⟩, hl', he⟩
  · rintro δ' μ' ⟨es, rfl, ⟨l', m', hL', rfl⟩, hl', he⟩
    refine sds_freeze_lst (μ1 := dealM p q l' m') (i := 4) rfl ?_
    walk_at "pd"
    exact k es _ he hl' ⟨l', m', hL', rfl⟩
end
end
section
variable {P : Program} {w : World} {K : PySem.W.Frag} {mg : Str → Option Value} {base : Heap}
/-! ### len of a history; things in a drawn order -/
def spHLen (K : PySem.W.Frag) : SpD := fun ds μ Q _ => ∃ xs, ds = [histD (He.ga K "History") xs] ∧ Q (.int (xs.length : Nat)) μ
section
abbrev N_History_len : List Str := ["self"]
theorem sc_History_len : FnScope N_History_len ["self"] (defScope sHistory_len) := ⟨rfl, rfl, rfl, by decide +kernel, rfl, by decide +kernel, by decide +kernel⟩
theorem v_History_len_self : Nm N_History_len (defScope sHistory_len) 0 "self" := ⟨rfl, by decide +kernel, by decide +kernel, by decide +kernel⟩
theorem gl_History_len_len : (defScope sHistory_len).names.lookup ("len" : Str) = some .globalImplicit := by decide +kernel
local macro_rules | `(tactic| walk_at "pd.nm") => `(tactic| first
  | ((with_reducible show ed _ (Expr.Name "self" _) _ _ _); first | refine ed_nm v_History_len_self rfl ?_ | refine ed_nmB (sc := defScope sHistory_len) v_History_len_self rfl ?_)
  | fail)
local macro_rules | `(tactic| walk_at "pd.call") => `(tactic| first
  | ((with_reducible show ed _ (Expr.Call (Expr.Name "len" _) (_ :: _) _ _) _ _ _); refine ed_callB (id := "len") (b_len (by assumption)) bb_len ?_ (hg := by first | exact gl_of gl_History_len_len))
  | fail)
local macro_rules | `(tactic| walk_at "pd.it") => `(tactic| first
  | ((with_reducible show eid _ _ _ _ _ _); refine eid_of ?_)
  | fail)
local macro_rules | `(tactic| walk_at "pd.fld") => `(tactic| first
  | ((with_reducible show ed _ (Expr.Attribute _ "events" _) _ _ _); refine ed_fld (c_History (by assumption)) (n_History_events (by assumption)) ?_)
  | fail)
theorem ok_History_len (T : T0 w K mg) : CallD P w K mg base 1 (He.ma K (He.ga K "History") "__len__") 1 [] (spHLen K) := by
  obtain ⟨fd, F⟩ := f_History_len T
  refine CallD.mk0 (ps := ["self"]) F (fun _ _ _ _ _ _ us hl => match us, hl with | [_], _ => rfl) (fnD_of F sc_History_len fun cdv A outer s H F0 μ ds Qd Ed hr hl h => ?_)
  obtain ⟨xs, rfl, q⟩ := h
  show sds _ _ [some (histD _ xs)] _ _
  unfold histD
  refine sds_cons ?_
  walk_at "pd"
  exact q
end
end
section
variable {P : Program} {w : World} {K : PySem.W.Frag} {mg : Str → Option Value} {base : Heap}
/-! ### one history of another, events left out -/
def comesB {α : Type} [DecidableEq α] : List α → List α → Bool
  | [], _ => true
  | _ :: _, [] => false
  | x :: xs, y :: ys => if x = y then comesB xs ys else comesB (x :: xs) ys
theorem comesB_nil {α : Type} [DecidableEq α] (xs : List α) : comesB xs [] = decide (xs = []) := by
  cases xs <;> simp [comesB]
/-! ### histories compared, to any value -/
def spHistEqG (K : PySem.W.Frag) : SpD := fun ds μ Q _ => ∃ es y, ds = [histD (He.ga K "History") (evDs es), y] ∧ EvsN es ∧
  ((∃ es', y = histD (He.ga K "History") (evDs es') ∧ EvsN es' ∧ Q (.bl (decide (es = es'))) μ) ∨ (∃ t, TyQ K μ y t ∧ PySem.W.kitOne K t (.ref (He.ga K "History")) = some false ∧ Q (.bl false) μ))
section
abbrev N_History_eq : List Str := ["self", "other"]
theorem sc_History_eq : FnScope N_History_eq ["self", "other"] (defScope sHistory_eq) := ⟨rfl, rfl, rfl, by decide +kernel, rfl, by decide +kernel, by decide +kernel⟩
theorem v_History_eq_self : Nm N_History_eq (defScope sHistory_eq) 0 "self" := ⟨rfl, by decide +kernel, by decide +kernel, by decide +kernel⟩
theorem v_History_eq_other : Nm N_History_eq (defScope sHistory_eq) 1 "other" := ⟨rfl, by decide +kernel, by decide +kernel, by decide +kernel⟩
theorem gl_History_eq_History : (defScope sHistory_eq).names.lookup ("History" : Str) = some .globalImplicit := by decide +kernel
theorem gl_History_eq_isinstance : (defScope sHistory_eq).names.lookup ("isinstance" : Str) = some .globalImplicit := by decide +kernel
local macro_rules | `(tactic| walk_at "pd.nm") => `(tactic| first
  | ((with_reducible show ed _ (Expr.Name "self" _) _ _ _); first | refine ed_nm v_History_eq_self rfl ?_ | refine ed_nmB (sc := defScope sHistory_eq) v_History_eq_self rfl ?_)
  | ((with_reducible show ed _ (Expr.Name "other" _) _ _ _); first | refine ed_nm v_History_eq_other rfl ?_ | refine ed_nmB (sc := defScope sHistory_eq) v_History_eq_other rfl ?_)
  | ((with_reducible show ed _ (Expr.Name "History" _) _ _ _); refine ed_gref (g_History (by assumption)) ?_ (hg := by first | exact gl_of gl_History_eq_History))
  | fail)
local macro_rules | `(tactic| walk_at "pd.call") => `(tactic| first
  | ((with_reducible show ed _ (Expr.Call (Expr.Name "isinstance" _) (_ :: _) _ _) _ _ _); refine ed_callB (id := "isinstance") (b_isinstance (by assumption)) bb_isinstance ?_ (hg := by first | exact gl_of gl_History_eq_isinstance))
  | fail)
local macro_rules | `(tactic| walk_at "pd.it") => `(tactic| first
  | ((with_reducible show eid _ _ _ _ _ _); refine eid_of ?_)
  | fail)
local macro_rules | `(tactic| walk_at "pd.fld") => `(tactic| first
  | ((with_reducible show ed _ (Expr.Attribute _ "events" _) _ _ _); refine ed_fld (c_History (by assumption)) (n_History_events (by assumption)) ?_)
  | fail)
theorem ok_History_eq (T : T0 w K mg) : CallD P w K mg base 1 (He.ma K (He.ga K "History") "__eq__") 2 [] (spHistEqG K) := by
  obtain ⟨fd, F⟩ := f_History_eq T
  refine CallD.mk0 (ps := ["self", "other"]) F (fun _ _ _ _ _ _ us hl => match us, hl with | [_, _], _ => rfl) (fnD_of F sc_History_eq fun cdv A outer s H F0 μ ds Qd Ed hr hl h => ?_)
  obtain ⟨es, y, rfl, E, h⟩ := h
  have hu := hr.units
  show sds _ _ [some (histD _ (evDs es)), some y] _ _
  refine sds_cons ?_
  rcases h with ⟨es', rfl, E', q⟩ | ⟨t, ht, hk, q⟩
  · unfold histD
    walk_at "pd"
    refine cld_isi (.obj (ct_History T) _ _) rfl kit_same ?_
    walk_at "pd"
    refine opd_eqV hu (.same (.tup (evDs es))) (.same (.tup (evDs es'))) (ok_evsT E.e) (ok_evsT E'.e) (depth_evsT _) (depth_evsT _) ?_
    rw [eqD_evs]
    exact q
  · walk_at "pd"
    refine cld_isi ht rfl hk ?_
    walk_at "pd"
    exact q
end
/-! ### sums and products -/
def spHAdd (K : PySem.W.Frag) : SpD := fun ds μ Q _ => ∃ es es', ds = [histD (He.ga K "History") (evDs es), histD (He.ga K "History") (evDs es')] ∧ EvsN (es ++ es') ∧ Q (histD (He.ga K "History") (evDs (es ++ es'))) μ
section
abbrev N_History_add : List Str := ["self", "other"]
theorem sc_History_add : FnScope N_History_add ["self", "other"] (defScope sHistory_add) := ⟨rfl, rfl, rfl, by decide +kernel, rfl, by decide +kernel, by decide +kernel⟩
theorem v_History_add_self : Nm N_History_add (defScope sHistory_add) 0 "self" := ⟨rfl, by decide +kernel, by decide +kernel, by decide +kernel⟩
theorem v_History_add_other : Nm N_History_add (defScope sHistory_add) 1 "other" := ⟨rfl, by decide +kernel, by decide +kernel, by decide +kernel⟩
theorem gl_History_add_History : (defScope sHistory_add).names.lookup ("History" : Str) = some .globalImplicit := by decide +kernel
local macro_rules | `(tactic| walk_at "pd.nm") => `(tactic| first
  | ((with_reducible show ed _ (Expr.Name "self" _) _ _ _); first | refine ed_nm v_History_add_self rfl ?_ | refine ed_nmB (sc := defScope sHistory_add) v_History_add_self rfl ?_)
  | ((with_reducible show ed _ (Expr.Name "other" _) _ _ _); first | refine ed_nm v_History_add_other rfl ?_ | refine ed_nmB (sc := defScope sHistory_add) v_History_add_other rfl ?_)
  | ((with_reducible show ed _ (Expr.Name "History" _) _ _ _); refine ed_gref (g_History (by assumption)) ?_ (hg := by first | exact gl_of gl_History_add_History))
  | fail)
local macro_rules | `(tactic| walk_at "pd.call") => `(tactic| first
  | ((with_reducible show ed _ (Expr.Call (Expr.Name "History" _) [_] _ _) _ _ _); refine ed_makeC (mk_History_1 (by assumption)) (by assumption) (by decide) (g_History (by assumption)) ?_ (hg := by first | exact gl_of gl_History_add_History))
  | fail)
local macro_rules | `(tactic| walk_at "pd.it") => `(tactic| first
  | ((with_reducible show eid _ _ _ _ _ _); refine eid_of ?_)
  | fail)
local macro_rules | `(tactic| walk_at "pd.fld") => `(tactic| first
  | ((with_reducible show ed _ (Expr.Attribute _ "events" _) _ _ _); refine ed_fld (c_History (by assumption)) (n_History_events (by assumption)) ?_)
  | fail)
theorem ok_History_add (T : T0 w K mg) : CallD P w K mg base 5 (He.ma K (He.ga K "History") "__add__") 2 [] (spHAdd K) := by
  obtain ⟨fd, F⟩ := f_History_add T
  refine CallD.mk0 (ps := ["self", "other"]) F (fun _ _ _ _ _ _ us hl => match us, hl with | [_, _], _ => rfl) (fnD_of F sc_History_add fun cdv A outer s H F0 μ ds Qd Ed hr hl h => ?_)
  obtain ⟨es, es', rfl, E, q⟩ := h
  have hn := E.n
  rw [List.length_append] at hn
  have e1 : (evDs es).length = es.length := by unfold evDs; rw [List.length_map]
  have e2 : (evDs es').length = es'.length := by unfold evDs; rw [List.length_map]
  show sds _ _ [some (histD _ (evDs es)), some (histD _ (evDs es'))] _ _
  unfold histD
  refine sds_cons ?_
  walk_at "pd"
  refine ⟨small_le (by simp only [List.append_nil, List.length_append, e1, e2]; omega), small_le (by simp only [List.append_nil, List.length_append, e1, e2]; omega), by simp only [List.append_nil, List.length_append, e1, e2]; omega, ?_⟩
  walk_at "pd"
  simp only [List.append_nil]
  have ea : evDs es ++ evDs es' = evDs (es ++ es') := by unfold evDs; rw [List.map_append]
  rw [ea]
  exact hist_of E (.lst _) q
end
def repE {α : Type} (es : List α) (k : Int) : List α := (List.replicate k.toNat es).flatten
theorem repE_map {α β : Type} (f : α → β) (es : List α) (k : Int) : (repE es k).map f = repE (es.map f) k := by
  unfold repE
  rw [List.map_flatten, List.map_replicate]
theorem repE_mem {α : Type} {es : List α} {k : Int} {x : α} (h : x ∈ repE es k) : x ∈ es := by
  unfold repE at h
  obtain ⟨l, hl, hx⟩ := List.mem_flatten.mp h
  rw [List.eq_of_mem_replicate hl] at hx
  exact hx
theorem repE_len {α : Type} (es : List α) (k : Int) : (repE es k).length = k.toNat * es.length := by
  unfold repE
  generalize k.toNat = m
  induction m with
  | zero => simp
  | succ m ih => rw [List.replicate_succ, List.flatten_cons, List.length_append, ih, Nat.succ_mul]; omega
theorem EvsN.rep {es : List (Str × List Nat)} (E : EvsN es) (hn : es.length ≤ 20) {k : Int} (hk : k ≤ 5) : EvsN (repE es k) := ⟨fun x hx => E.e x (repE_mem hx), by
  rw [repE_len]
  have : k.toNat * es.length ≤ 5 * 20 := Nat.mul_le_mul (by omega) hn
  omega⟩
def spHMul (K : PySem.W.Frag) : SpD := fun ds μ Q _ => ∃ es k, ds = [histD (He.ga K "History") (evDs es), .int k] ∧ EvsN es ∧ es.length ≤ 20 ∧ 0 ≤ k ∧ k ≤ 5 ∧ Q (histD (He.ga K "History") (evDs (repE es k))) μ
section
abbrev N_History_mul : List Str := ["self", "many"]
theorem sc_History_mul : FnScope N_History_mul ["self", "many"] (defScope sHistory_mul) := ⟨rfl, rfl, rfl, by decide +kernel, rfl, by decide +kernel, by decide +kernel⟩
theorem v_History_mul_self : Nm N_History_mul (defScope sHistory_mul) 0 "self" := ⟨rfl, by decide +kernel, by decide +kernel, by decide +kernel⟩
theorem v_History_mul_many : Nm N_History_mul (defScope sHistory_mul) 1 "many" := ⟨rfl, by decide +kernel, by decide +kernel, by decide +kernel⟩
theorem gl_History_mul_History : (defScope sHistory_mul).names.lookup ("History" : Str) = some .globalImplicit := by decide +kernel
local macro_rules | `(tactic| walk_at "pd.nm") => `(tactic| first
  | ((with_reducible show ed _ (Expr.Name "self" _) _ _ _); first | refine ed_nm v_History_mul_self rfl ?_ | refine ed_nmB (sc := defScope sHistory_mul) v_History_mul_self rfl ?_)
  | ((with_reducible show ed _ (Expr.Name "many" _) _ _ _); first | refine ed_nm v_History_mul_many rfl ?_ | refine ed_nmB (sc := defScope sHistory_mul) v_History_mul_many rfl ?_)
  | ((with_reducible show ed _ (Expr.Name "History" _) _ _ _); refine ed_gref (g_History (by assumption)) ?_ (hg := by first | exact gl_of gl_History_mul_History))
  | fail)
local macro_rules | `(tactic| walk_at "pd.call") => `(tactic| first
  | ((with_reducible show ed _ (Expr.Call (Expr.Name "History" _) [_] _ _) _ _ _); refine ed_makeC (mk_History_1 (by assumption)) (by assumption) (by decide) (g_History (by assumption)) ?_ (hg := by first | exact gl_of gl_History_mul_History))
  | fail)
local macro_rules | `(tactic| walk_at "pd.it") => `(tactic| first
  | ((with_reducible show eid _ _ _ _ _ _); refine eid_of ?_)
  | fail)
local macro_rules | `(tactic| walk_at "pd.fld") => `(tactic| first
  | ((with_reducible show ed _ (Expr.Attribute _ "events" _) _ _ _); refine ed_fld (c_History (by assumption)) (n_History_events (by assumption)) ?_)
  | fail)
theorem ok_History_mul (T : T0 w K mg) : CallD P w K mg base 5 (He.ma K (He.ga K "History") "__mul__") 2 [] (spHMul K) := by
  obtain ⟨fd, F⟩ := f_History_mul T
  refine CallD.mk0 (ps := ["self", "many"]) F (fun _ _ _ _ _ _ us hl => match us, hl with | [_, _], _ => rfl) (fnD_of F sc_History_mul fun cdv A outer s H F0 μ ds Qd Ed hr hl h => ?_)
  obtain ⟨es, k, rfl, E, hn, k0, k1, q⟩ := h
  show sds _ _ [some (histD _ (evDs es)), some (.int k)] _ _
  unfold histD
  refine sds_cons ?_
  walk_at "pd"
  refine opd_repT (by omega) (by omega) (by unfold evDs; rw [List.length_map]; omega) ?_
  walk_at "pd"
  have e1 : (List.replicate k.toNat (evDs es)).flatten = evDs (repE es k) := by unfold evDs; rw [repE_map]; rfl
  rw [e1]
  exact hist_of (E.rep hn k1) (.tup _) q
end
section
abbrev N_History_rmul : List Str := ["self", "many"]
theorem v_History_rmul_self : Nm N_History_rmul (defScope sHistory_rmul) 0 "self" := ⟨rfl, by decide +kernel, by decide +kernel, by decide +kernel⟩
theorem v_History_rmul_many : Nm N_History_rmul (defScope sHistory_rmul) 1 "many" := ⟨rfl, by decide +kernel, by decide +kernel, by decide +kernel⟩
local macro_rules | `(tactic| walk_at "pd.nm") => `(tactic| first
  | ((with_reducible show ed _ (Expr.Name "self" _) _ _ _); first | refine ed_nm v_History_rmul_self rfl ?_ | refine ed_nmB (sc := defScope sHistory_rmul) v_History_rmul_self rfl ?_)
  | ((with_reducible show ed _ (Expr.Name "many" _) _ _ _); first | refine ed_nm v_History_rmul_many rfl ?_ | refine ed_nmB (sc := defScope sHistory_rmul) v_History_rmul_many rfl ?_)
  | fail)
local macro_rules | `(tactic| walk_at "pd.it") => `(tactic| first
  | ((with_reducible show eid _ _ _ _ _ _); refine eid_of ?_)
  | fail)
end
/-! ### events left out -/
def spHLe (K : PySem.W.Frag) : SpD := fun ds μ Q _ => ∃ es es', ds = [histD (He.ga K "History") (evDs es), histD (He.ga K "History") (evDs es')] ∧ EvsN es ∧ EvsN es' ∧ Q (.bl (comesB es es')) μ
theorem comesB_step {es es' : List (Str × List Nat)} {i j : Nat} {e : Str × List Nat} (hi : es'[i]? = some e) : comesB (es.drop j) (es'.drop i) = if es[j]? = some e then comesB (es.drop (j + 1)) (es'.drop (i + 1)) else comesB (es.drop j) (es'.drop (i + 1)) := by
  have hd : es'.drop i = e :: es'.drop (i + 1) := by
    obtain ⟨h1, h2⟩ := List.getElem?_eq_some_iff.mp hi
    rw [List.drop_eq_getElem_cons h1, h2]
  rw [hd]
  cases hj : es[j]? with
  | none =>
    have : es.drop j = [] := List.drop_eq_nil_of_le (List.getElem?_eq_none_iff.mp hj)
    rw [this, if_neg (by simp), comesB, comesB]
  | some x =>
    have hx : es.drop j = x :: es.drop (j + 1) := by
      obtain ⟨h1, h2⟩ := List.getElem?_eq_some_iff.mp hj
      rw [List.drop_eq_getElem_cons h1, h2]
    rw [hx]
    by_cases e1 : x = e
    · subst e1; rw [if_pos rfl]; simp [comesB]
    · rw [if_neg (by simpa using e1)]; simp [comesB, e1]
theorem eqD_ev (e e' : Str × List Nat) : eqD (evD e.1 e.2) (evD e'.1 e'.2) = decide (e = e') := eqv_ev e e'
theorem evDs_get (es : List (Str × List Nat)) (i : Nat) : (evDs es)[i]? = (es[i]?).map fun e => evD e.1 e.2 := by unfold evDs; rw [List.getElem?_map]
section
abbrev N_History_le : List Str := ["self", "other", "spot", "event"]
theorem sc_History_le : FnScope N_History_le ["self", "other"] (defScope sHistory_le) := ⟨rfl, rfl, rfl, by decide +kernel, rfl, by decide +kernel, by decide +kernel⟩
theorem v_History_le_self : Nm N_History_le (defScope sHistory_le) 0 "self" := ⟨rfl, by decide +kernel, by decide +kernel, by decide +kernel⟩
theorem v_History_le_other : Nm N_History_le (defScope sHistory_le) 1 "other" := ⟨rfl, by decide +kernel, by decide +kernel, by decide +kernel⟩
theorem v_History_le_spot : Nm N_History_le (defScope sHistory_le) 2 "spot" := ⟨rfl, by decide +kernel, by decide +kernel, by decide +kernel⟩
theorem v_History_le_event : Nm N_History_le (defScope sHistory_le) 3 "event" := ⟨rfl, by decide +kernel, by decide +kernel, by decide +kernel⟩
theorem gl_History_le_len : (defScope sHistory_le).names.lookup ("len" : Str) = some .globalImplicit := by decide +kernel
local macro_rules | `(tactic| walk_at "pd.nm") => `(tactic| first
  | ((with_reducible show ed _ (Expr.Name "self" _) _ _ _); first | refine ed_nm v_History_le_self rfl ?_ | refine ed_nmB (sc := defScope sHistory_le) v_History_le_self rfl ?_)
  | ((with_reducible show ed _ (Expr.Name "other" _) _ _ _); first | refine ed_nm v_History_le_other rfl ?_ | refine ed_nmB (sc := defScope sHistory_le) v_History_le_other rfl ?_)
  | ((with_reducible show ed _ (Expr.Name "spot" _) _ _ _); first | refine ed_nm v_History_le_spot rfl ?_ | refine ed_nmB (sc := defScope sHistory_le) v_History_le_spot rfl ?_)
  | ((with_reducible show ed _ (Expr.Name "event" _) _ _ _); first | refine ed_nm v_History_le_event rfl ?_ | refine ed_nmB (sc := defScope sHistory_le) v_History_le_event rfl ?_)
  | fail)
local macro_rules | `(tactic| walk_at "pd.set") => `(tactic| first
  | ((with_reducible show sd _ (Stmt.Assign [Expr.Name "spot" _] _ _) _ _ _); refine sd_nm v_History_le_spot sc_History_le.nd ?_)
  | ((with_reducible show sd _ (Stmt.Assign [Expr.Name "event" _] _ _) _ _ _); refine sd_nm v_History_le_event sc_History_le.nd ?_)
  | fail)
local macro_rules | `(tactic| walk_at "pd.g") => `(tactic| first
  | ((with_reducible show gd _ (Expr.Name "spot" _) _ _ _ _); refine gd_nm v_History_le_spot sc_History_le.nd ?_)
  | ((with_reducible show gd _ (Expr.Name "event" _) _ _ _ _); refine gd_nm v_History_le_event sc_History_le.nd ?_)
  | fail)
local macro_rules | `(tactic| walk_at "pd.call") => `(tactic| first
  | ((with_reducible show ed _ (Expr.Call (Expr.Name "len" _) (_ :: _) _ _) _ _ _); refine ed_callB (id := "len") (b_len (by assumption)) bb_len ?_ (hg := by first | exact gl_of gl_History_le_len))
  | fail)
local macro_rules | `(tactic| walk_at "pd.it") => `(tactic| first
  | ((with_reducible show eid _ _ _ _ _ _); refine eid_of ?_)
  | fail)
local macro_rules | `(tactic| walk_at "pd.fld") => `(tactic| first
  | ((with_reducible show ed _ (Expr.Attribute _ "events" _) _ _ _); refine ed_fld (c_History (by assumption)) (n_History_events (by assumption)) ?_)
  | fail)
theorem ok_History_le (T : T0 w K mg) : CallD P w K mg base 2 (He.ma K (He.ga K "History") "__le__") 2 [] (spHLe K) := by
  obtain ⟨fd, F⟩ := f_History_le T
  refine CallD.mk0 (ps := ["self", "other"]) F (fun _ _ _ _ _ _ us hl => match us, hl with | [_, _], _ => rfl) (fnD_of F sc_History_le fun cdv A outer s H F0 μ ds Qd Ed hr hl h => ?_)
  obtain ⟨es, es', rfl, E, E', q⟩ := h
  have hu := hr.units
  have e1 : (evDs es).length = es.length := by unfold evDs; rw [List.length_map]
  have e2 : (evDs es').length = es'.length := by unfold evDs; rw [List.length_map]
  show sds _ _ [some (histD _ (evDs es)), some (histD _ (evDs es')), none, none] _ _
  unfold histD
  refine sds_cons ?_
  walk_at "pd"
  refine sd_for rfl ?_
  walk_at "pd"
  refine ⟨fun i δ' μ' => ∃ (j : Nat) (x3 : Option D), δ' = [some (.obj _ _ [.tup (evDs es)]), some (.obj _ _ [.tup (evDs es')]), some (.int (j : Int)), x3] ∧ μ' = μ ∧ j ≤ es.length ∧ comesB es es' = comesB (es.drop j) (es'.drop i),
    ⟨0, _, rfl, rfl, Nat.zero_le _, rfl⟩, fun _ _ _ _ _ => trivial, ?_, ?_⟩
  · rintro i d δ' μ' hd ⟨j, x3, rfl, rfl, hj, hc⟩
    rw [evDs_get] at hd
    cases he : es'[i]? with
    | none => rw [he] at hd; cases hd
    | some e =>
      rw [he] at hd
      cases hd
      rw [comesB_step he] at hc
      walk_at "pd"
      refine ifd (fun h1 => ?_) (fun h1 => ?_)
      · rw [e1] at h1
        have hj2 : j < es.length := by omega
        obtain ⟨e', he'⟩ : ∃ e', es[j]? = some e' := ⟨_, List.getElem?_eq_getElem hj2⟩
        walk_at "pd"
        refine ixd_tup (d := evD e'.1 e'.2) ?_ ?_
        · rw [atI_nat]
          rw [evDs_get, he']; rfl
        walk_at "pd"
        refine opd_eqV hu (.same _) (.same _) (ok_ev (E.e e' (List.mem_of_getElem? he'))) (ok_ev (E'.e e (List.mem_of_getElem? he))) (Nat.le_trans (depth_ev e') (by decide)) (Nat.le_trans (depth_ev e) (by decide)) ?_
        rw [eqD_ev]
        walk_at "pd"
        refine ifd (fun h2 => ?_) (fun h2 => ?_)
        · subst h2
          rw [he', if_pos rfl] at hc
          walk_at "pd"
          exact ⟨j + 1, _, rfl, rfl, by omega, hc⟩
        · rw [he', if_neg (by simpa using h2)] at hc
          walk_at "pd"
          exact ⟨j, _, rfl, rfl, hj, hc⟩
      · rw [e1] at h1
        have hn : es[j]? = none := List.getElem?_eq_none_iff.mpr (by omega)
        rw [hn, if_neg (by simp)] at hc
        walk_at "pd"
        exact ⟨j, _, rfl, rfl, hj, hc⟩
  · rintro δ' μ' ⟨j, x3, rfl, rfl, hj, hc⟩
    rw [e2, List.drop_length, comesB_nil] at hc
    walk_at "pd"
    rw [e1]
    have : decide ((j : Int) = (es.length : Int)) = comesB es es' := by
      rw [hc]
      by_cases h : es.length ≤ j
      · rw [decide_eq_true (show (j : Int) = (es.length : Int) by omega), decide_eq_true (List.drop_eq_nil_of_le h)]
      · rw [decide_eq_false (show ¬ (j : Int) = (es.length : Int) by omega), decide_eq_false fun z => h (List.drop_eq_nil_iff.mp z)]
    rw [this]
    exact q
end
end
section
variable {P : Program} {w : World} {K : PySem.W.Frag} {mg : Str → Option Value} {base : Heap}
/-! ### the other signs -/
def spHLt (K : PySem.W.Frag) : SpD := fun ds μ Q _ => ∃ es es', ds = [histD (He.ga K "History") (evDs es), histD (He.ga K "History") (evDs es')] ∧ EvsN es ∧ EvsN es' ∧ Q (.bl (comesB es es' && !decide (es = es'))) μ
section
abbrev N_History_lt : List Str := ["self", "other"]
theorem sc_History_lt : FnScope N_History_lt ["self", "other"] (defScope sHistory_lt) := ⟨rfl, rfl, rfl, by decide +kernel, rfl, by decide +kernel, by decide +kernel⟩
theorem v_History_lt_self : Nm N_History_lt (defScope sHistory_lt) 0 "self" := ⟨rfl, by decide +kernel, by decide +kernel, by decide +kernel⟩
theorem v_History_lt_other : Nm N_History_lt (defScope sHistory_lt) 1 "other" := ⟨rfl, by decide +kernel, by decide +kernel, by decide +kernel⟩
local macro_rules | `(tactic| walk_at "pd.nm") => `(tactic| first
  | ((with_reducible show ed _ (Expr.Name "self" _) _ _ _); first | refine ed_nm v_History_lt_self rfl ?_ | refine ed_nmB (sc := defScope sHistory_lt) v_History_lt_self rfl ?_)
  | ((with_reducible show ed _ (Expr.Name "other" _) _ _ _); first | refine ed_nm v_History_lt_other rfl ?_ | refine ed_nmB (sc := defScope sHistory_lt) v_History_lt_other rfl ?_)
  | fail)
local macro_rules | `(tactic| walk_at "pd.it") => `(tactic| first
  | ((with_reducible show eid _ _ _ _ _ _); refine eid_of ?_)
  | fail)
local macro_rules | `(tactic| walk_at "pd.fld") => `(tactic| first
  | ((with_reducible show ed _ (Expr.Attribute _ "events" _) _ _ _); refine ed_fld (c_History (by assumption)) (n_History_events (by assumption)) ?_)
  | fail)
theorem ok_History_lt (T : T0 w K mg) : CallD P w K mg base 3 (He.ma K (He.ga K "History") "__lt__") 2 [] (spHLt K) := by
  obtain ⟨fd, F⟩ := f_History_lt T
  refine CallD.mk0 (ps := ["self", "other"]) F (fun _ _ _ _ _ _ us hl => match us, hl with | [_, _], _ => rfl) (fnD_of F sc_History_lt fun cdv A outer s H F0 μ ds Qd Ed hr hl h => ?_)
  obtain ⟨es, es', rfl, E, E', q⟩ := h
  have hu := hr.units
  have hu0 : (mkCt _ P w K mg base N_History_lt "History.__lt__" (defScope sHistory_lt) (He.ma K (He.ga K "History") "__lt__") cdv A outer s H F0 μ Ed).X.A.units < cLine := Nat.lt_of_le_of_lt (Nat.le_add_right _ 64) hu
  show sds _ _ [some (histD _ (evDs es)), some (histD _ (evDs es'))] _ _
  refine sds_cons ?_
  walk_at "pd"
  refine opd_leM (m_History_le T) rfl (.obj (ct_History T) _ _) nf_same (ok_History_le T) hr (by decide) hu0 ⟨es, es', rfl, E, E', ?_⟩
  cases e : comesB es es' with
  | false =>
    rw [e] at q
    walk_at "pd"
    exact q
  | true =>
    rw [e] at q
    unfold histD
    walk_at "pd"
    refine opd_neV hu (.same (.tup (evDs es))) (.same (.tup (evDs es'))) (ok_evsT E.e) (ok_evsT E'.e) (depth_evsT _) (depth_evsT _) ?_
    rw [eqD_evs]
    exact q
end
section
abbrev N_History_ge : List Str := ["self", "other"]
theorem v_History_ge_self : Nm N_History_ge (defScope sHistory_ge) 0 "self" := ⟨rfl, by decide +kernel, by decide +kernel, by decide +kernel⟩
theorem v_History_ge_other : Nm N_History_ge (defScope sHistory_ge) 1 "other" := ⟨rfl, by decide +kernel, by decide +kernel, by decide +kernel⟩
local macro_rules | `(tactic| walk_at "pd.nm") => `(tactic| first
  | ((with_reducible show ed _ (Expr.Name "self" _) _ _ _); first | refine ed_nm v_History_ge_self rfl ?_ | refine ed_nmB (sc := defScope sHistory_ge) v_History_ge_self rfl ?_)
  | ((with_reducible show ed _ (Expr.Name "other" _) _ _ _); first | refine ed_nm v_History_ge_other rfl ?_ | refine ed_nmB (sc := defScope sHistory_ge) v_History_ge_other rfl ?_)
  | fail)
local macro_rules | `(tactic| walk_at "pd.it") => `(tactic| first
  | ((with_reducible show eid _ _ _ _ _ _); refine eid_of ?_)
  | fail)
end
def spHGt (K : PySem.W.Frag) : SpD := fun ds μ Q _ => ∃ es es', ds = [histD (He.ga K "History") (evDs es), histD (He.ga K "History") (evDs es')] ∧ EvsN es ∧ EvsN es' ∧ Q (.bl (comesB es' es && !decide (es' = es))) μ
section
abbrev N_History_gt : List Str := ["self", "other"]
theorem sc_History_gt : FnScope N_History_gt ["self", "other"] (defScope sHistory_gt) := ⟨rfl, rfl, rfl, by decide +kernel, rfl, by decide +kernel, by decide +kernel⟩
theorem v_History_gt_self : Nm N_History_gt (defScope sHistory_gt) 0 "self" := ⟨rfl, by decide +kernel, by decide +kernel, by decide +kernel⟩
theorem v_History_gt_other : Nm N_History_gt (defScope sHistory_gt) 1 "other" := ⟨rfl, by decide +kernel, by decide +kernel, by decide +kernel⟩
local macro_rules | `(tactic| walk_at "pd.nm") => `(tactic| first
  | ((with_reducible show ed _ (Expr.Name "self" _) _ _ _); first | refine ed_nm v_History_gt_self rfl ?_ | refine ed_nmB (sc := defScope sHistory_gt) v_History_gt_self rfl ?_)
  | ((with_reducible show ed _ (Expr.Name "other" _) _ _ _); first | refine ed_nm v_History_gt_other rfl ?_ | refine ed_nmB (sc := defScope sHistory_gt) v_History_gt_other rfl ?_)
  | fail)
local macro_rules | `(tactic| walk_at "pd.it") => `(tactic| first
  | ((with_reducible show eid _ _ _ _ _ _); refine eid_of ?_)
  | fail)
theorem ok_History_gt (T : T0 w K mg) : CallD P w K mg base 4 (He.ma K (He.ga K "History") "__gt__") 2 [] (spHGt K) := by
  obtain ⟨fd, F⟩ := f_History_gt T
  refine CallD.mk0 (ps := ["self", "other"]) F (fun _ _ _ _ _ _ us hl => match us, hl with | [_, _], _ => rfl) (fnD_of F sc_History_gt fun cdv A outer s H F0 μ ds Qd Ed hr hl h => ?_)
  obtain ⟨es, es', rfl, E, E', q⟩ := h
  have hu := hr.units
  have hu0 : (mkCt _ P w K mg base N_History_gt "History.__gt__" (defScope sHistory_gt) (He.ma K (He.ga K "History") "__gt__") cdv A outer s H F0 μ Ed).X.A.units < cLine := Nat.lt_of_le_of_lt (Nat.le_add_right _ 64) hu
  show sds _ _ [some (histD _ (evDs es)), some (histD _ (evDs es'))] _ _
  refine sds_cons ?_
  walk_at "pd"
  exact opd_ltM (m_History_lt T) rfl (.obj (ct_History T) _ _) nf_same (ok_History_lt T) hr (by decide) hu0 ⟨es', es, rfl, E', E, q⟩
end
end
section
variable {P : Program} {w : World} {K : PySem.W.Frag} {mg : Str → Option Value} {base : Heap}
/-! ### numbers in texts -/
def isDig (c : Nat) : Bool := decide (c ∈ (Str.ofString "0123456789").cps.toList)
/-- the number that a word of at most so many figures writes -/
def numIn (z : Str) (most : Int) : Option Int :=
  if 1 ≤ z.length ∧ (z.length : Int) ≤ most ∧ z.cps.toList.all isDig = true then
    if 1 < z.length ∧ z.cps.toList.head? = some 48 then none else PySem.intText? z
  else none
def numD : Option Int → D | none => .non | some n => .int n
theorem dig_all {l : List Nat} (h : l.all isDig = true) : NumText.AllDigits l := by
  have key : ∀ c ∈ (Str.ofString "0123456789").cps.toList, 48 ≤ c ∧ c ≤ 57 := by decide +kernel
  intro c hc
  exact key c (of_decide_eq_true (List.all_eq_true.mp h c hc))
theorem int_of_dig {z : Str} (h : z.cps.toList.all isDig = true) (h1 : 1 ≤ z.length) (h2 : z.length ≤ 600) : ∃ n : Nat, PySem.intText? z = some (n : Int) := by
  refine ⟨_, intText_digits (dig_all h) (fun e => ?_) (by omega)⟩
  have : z.length = z.cps.toList.length := by simp [Str.length]
  rw [e] at this; simp at this; omega
def digD : D → Bool | .str x => x.cps.toList.all isDig | _ => false
theorem digD_sign (c : Nat) : digD (.str ⟨#[c]⟩) = isDig c := by show ([c].all isDig) = _; simp
theorem dig_signs (z : Str) : (signsD z).all digD = z.cps.toList.all isDig := by
  unfold signsD; rw [List.all_map]
  congr 1
  funext c
  exact digD_sign c
def spNumIn : SpD := fun ds μ Q _ => ∃ (z : Str) (m : Int), ds = [.str z, .int m] ∧ z.length ≤ 100000 ∧ m ≤ 100 ∧ Q (numD (numIn z m)) μ
section
abbrev N_number_in : List Str := ["word", "most", "sign"]
theorem sc_number_in : FnScope N_number_in ["word", "most"] (defScope snumber_in) := ⟨rfl, rfl, rfl, by decide +kernel, rfl, by decide +kernel, by decide +kernel⟩
theorem v_number_in_word : Nm N_number_in (defScope snumber_in) 0 "word" := ⟨rfl, by decide +kernel, by decide +kernel, by decide +kernel⟩
theorem v_number_in_most : Nm N_number_in (defScope snumber_in) 1 "most" := ⟨rfl, by decide +kernel, by decide +kernel, by decide +kernel⟩
theorem w_number_in_sign : NmB N_number_in 2 "sign" := ⟨rfl, by decide +kernel, by decide +kernel⟩
theorem gl_number_in_all : (defScope snumber_in).names.lookup ("all" : Str) = some .globalImplicit := by decide +kernel
theorem gl_number_in_int : (defScope snumber_in).names.lookup ("int" : Str) = some .globalImplicit := by decide +kernel
theorem gl_number_in_len : (defScope snumber_in).names.lookup ("len" : Str) = some .globalImplicit := by decide +kernel
local macro_rules | `(tactic| walk_at "pd.nm") => `(tactic| first
  | ((with_reducible show ed _ (Expr.Name "word" _) _ _ _); first | refine ed_nm v_number_in_word rfl ?_ | refine ed_nmB (sc := defScope snumber_in) v_number_in_word rfl ?_)
  | ((with_reducible show ed _ (Expr.Name "most" _) _ _ _); first | refine ed_nm v_number_in_most rfl ?_ | refine ed_nmB (sc := defScope snumber_in) v_number_in_most rfl ?_)
  | ((with_reducible show ed _ (Expr.Name "sign" _) _ _ _); refine ed_nmC (sc := defScope snumber_in) w_number_in_sign rfl ?_)
  | ((with_reducible show ed _ (Expr.Name "FIGURES" _) _ _ _); refine ed_gstr (s_FIGURES (by assumption)) ?_ (hg := by first | exact glB_of (sc := defScope snumber_in)))
  | ((with_reducible show ed _ (Expr.Name "int" _) _ _ _); refine ed_ty (n := "int") (b_int (by assumption)) bb_int ?_ (hg := by first | exact gl_of gl_number_in_int))
  | fail)
local macro_rules | `(tactic| walk_at "pd.g") => `(tactic| first
  | ((with_reducible show gv _ (Expr.Name "sign" _) _ _ _ _ _); refine gv_nmC (sc := defScope snumber_in) w_number_in_sign sc_number_in.nd (by decide) ?_)
  | fail)
local macro_rules | `(tactic| walk_at "pd.call") => `(tactic| first
  | ((with_reducible show ed _ (Expr.Call (Expr.Name "int" _) (_ :: _) _ _) _ _ _); refine ed_callTy (T := "int") (b_int (by assumption)) bb_int ?_ (hg := by first | exact gl_of gl_number_in_int))
  | ((with_reducible show ed _ (Expr.Call (Expr.Name "all" _) (_ :: _) _ _) _ _ _); refine ed_callB (id := "all") (b_all (by assumption)) bb_all ?_ (hg := by first | exact gl_of gl_number_in_all))
  | ((with_reducible show ed _ (Expr.Call (Expr.Name "len" _) (_ :: _) _ _) _ _ _); refine ed_callB (id := "len") (b_len (by assumption)) bb_len ?_ (hg := by first | exact gl_of gl_number_in_len))
  | fail)
local macro_rules | `(tactic| walk_at "pd.lc") => `(tactic| first
  | ((with_reducible show ed _ (Expr.ListComp _ [_] _ _) _ _ _); refine ed_lc (own := [("sign", 2)]) [("sign", 2)] rfl rfl sc_number_in.nd (blkOk_by (N := N_number_in) (sc := defScope snumber_in) (by decide +kernel)) ?_)
  | fail)
local macro_rules | `(tactic| walk_at "pd.it") => `(tactic| first
  | ((with_reducible show eid _ _ _ _ _ _); refine eid_of ?_)
  | fail)
theorem ok_number_in (T : T0 w K mg) : CallD P w K mg base 1 (He.ga K "number_in") 2 [] spNumIn := by
  obtain ⟨fd, F⟩ := f_number_in T
  refine CallD.mk0 (ps := ["word", "most"]) F (fun _ _ _ _ _ _ us hl => match us, hl with | [_, _], _ => rfl) (fnD_of F sc_number_in fun cdv A outer s H F0 μ ds Qd Ed hr hl h => ?_)
  obtain ⟨z, m, rfl, hz, hm, q⟩ := h
  have hzl : z.length ≤ sizeLine := small_le hz
  show sds _ _ [some (.str z), some (.int m), none] _ _
  refine sds_cons ?_
  have no : ∀ (h : ¬ (1 ≤ z.length ∧ (z.length : Int) ≤ m ∧ z.cps.toList.all isDig = true)), Qd .non μ := fun h => by
    unfold numIn at q; rw [if_neg h] at q; exact q
  walk_at "pd"
  refine ifd (fun h1 => ?_) (fun h1 => ?_)
  · walk_at "pd"
    refine ifn (fun h2 => ?_) (fun h2 => ?_)
    · walk_at "pd"
      exact no fun h => h2 h.2.1
    walk_at "pd"
    refine lcd_fm (fun _ => true) (fun d => .bl (digD d)) ?_
    walk_at "pd"
    refine ⟨by unfold signsD; rw [List.length_map]; have : z.cps.toList.length = z.length := by simp [Str.length]
               omega, trivial, fun d hd => ?_, ?_⟩
    · obtain ⟨c, hc, rfl⟩ := List.mem_map.mp hd
      walk_at "pd"
      refine ⟨rfl, rfl, fun _ => ?_⟩
      walk_at "pd"
      exact ⟨by rw [digD_sign]; rfl, rfl⟩
    rw [fm_bl (f := digD) fun _ => rfl]
    walk_at "pd"
    rw [all_map, dig_signs]
    refine ifb (fun h3 => ?_) (fun h3 => ?_)
    · walk_at "pd"
      exact no fun h => by rw [h.2.2] at h3; cases h3
    have h3' : z.cps.toList.all isDig = true := by simpa using h3
    unfold numIn at q
    rw [if_pos ⟨by omega, h2, h3'⟩] at q
    obtain ⟨n, hn⟩ := int_of_dig h3' (by omega) (by omega)
    obtain ⟨c, r, hcr⟩ : ∃ c r, z.cps.toList = c :: r := by
      cases e : z.cps.toList with
      | nil => have : z.cps.toList.length = z.length := by simp [Str.length]
               rw [e] at this; simp at this; omega
      | cons c r => exact ⟨c, r, rfl⟩
    walk_at "pd"
    refine ifd (fun h4 => ?_) (fun h4 => ?_)
    · walk_at "pd"
      refine ixd_str hzl (c := c) (by rw [hcr]; exact atI_zero) ?_
      walk_at "pd"
      refine ifd (fun h5 => ?_) (fun h5 => ?_)
      · walk_at "pd"
        rw [if_pos ⟨by omega, by rw [hcr]; have : [c] = [48] := congrArg (fun s : Str => s.cps.toList) h5
                                 rw [List.cons.inj this |>.1]; rfl⟩] at q
        exact q
      · walk_at "pd"
        refine cld_intS hn (by omega) ?_
        rw [if_neg fun h => h5 (by rw [hcr] at h; have := h.2; simp at this; rw [this]; rfl), hn] at q
        exact q
    · walk_at "pd"
      refine cld_intS hn (by omega) ?_
      rw [if_neg fun h => h4 (by omega), hn] at q
      exact q
  · walk_at "pd"
    exact no fun h => h1 (by omega)
end
/-! ### an event in a text -/
/-- what stands in a text: an event, or what is none -/
def evIn (z : Str) : D := match Txt.split z " " with
  | [] => .non
  | w :: r => .tup (.str w :: r.map fun x => numD (numIn x 7))
def spEvIn : SpD := fun ds μ Q _ => ∃ z, ds = [.str z] ∧ z.length ≤ 900 ∧ Q (if isEvB (evIn z) then evIn z else .non) μ
theorem mem_sum {x : Str} : ∀ {l : List Str}, x ∈ l → x.length ≤ (l.map (·.length)).sum
  | a :: l, h => by
    rw [List.map_cons, List.sum_cons]
    rcases List.mem_cons.mp h with rfl | h
    · omega
    · have := mem_sum h; omega
theorem numD_ty (o : Option Int) : (tyN (numD o)).isSome = true := by cases o <;> rfl
section
abbrev N_event_in : List Str := ["text", "words", "event", "word"]
theorem sc_event_in : FnScope N_event_in ["text"] (defScope sevent_in) := ⟨rfl, rfl, rfl, by decide +kernel, rfl, by decide +kernel, by decide +kernel⟩
theorem v_event_in_text : Nm N_event_in (defScope sevent_in) 0 "text" := ⟨rfl, by decide +kernel, by decide +kernel, by decide +kernel⟩
theorem v_event_in_words : Nm N_event_in (defScope sevent_in) 1 "words" := ⟨rfl, by decide +kernel, by decide +kernel, by decide +kernel⟩
theorem v_event_in_event : Nm N_event_in (defScope sevent_in) 2 "event" := ⟨rfl, by decide +kernel, by decide +kernel, by decide +kernel⟩
theorem w_event_in_word : NmB N_event_in 3 "word" := ⟨rfl, by decide +kernel, by decide +kernel⟩
theorem gl_event_in_is_event : (defScope sevent_in).names.lookup ("is_event" : Str) = some .globalImplicit := by decide +kernel
theorem sl_event_in_words : (defScope sevent_in).names.lookup ("words" : Str) = some .local := by decide +kernel
theorem sl_event_in_event : (defScope sevent_in).names.lookup ("event" : Str) = some .local := by decide +kernel
local macro_rules | `(tactic| walk_at "pd.nm") => `(tactic| first
  | ((with_reducible show ed _ (Expr.Name "text" _) _ _ _); first | refine ed_nm v_event_in_text rfl ?_ | refine ed_nmB (sc := defScope sevent_in) v_event_in_text rfl ?_)
  | ((with_reducible show ed _ (Expr.Name "words" _) _ _ _); first | refine ed_nm v_event_in_words rfl ?_ | refine ed_nmB (sc := defScope sevent_in) v_event_in_words rfl ?_)
  | ((with_reducible show ed _ (Expr.Name "event" _) _ _ _); first | refine ed_nm v_event_in_event rfl ?_ | refine ed_nmB (sc := defScope sevent_in) v_event_in_event rfl ?_)
  | ((with_reducible show ed _ (Expr.Name "word" _) _ _ _); refine ed_nmC (sc := defScope sevent_in) w_event_in_word rfl ?_)
  | ((with_reducible show ed _ (Expr.Name "MOST_FIGURES" _) _ _ _); refine ed_gint (i_MOST_FIGURES (by assumption)) ?_ (hg := by first | exact glB_of (sc := defScope sevent_in)))
  | fail)
local macro_rules | `(tactic| walk_at "pd.set") => `(tactic| first
  | ((with_reducible show sd _ (Stmt.Assign [Expr.Name "words" _] (Expr.ListComp _ _ _ _) _) _ _ _); refine sd_setLc (own := [("word", 3)]) (i := 1) rfl sc_event_in.nd rfl (by exact sl_event_in_words) (sw_true rfl (by exact sl_event_in_words) rfl (by decide +kernel)) (blkOk_by (N := N_event_in) (sc := defScope sevent_in) (by decide +kernel)) ?_)
  | ((with_reducible show sd _ (Stmt.Assign [Expr.Name "event" _] (Expr.ListComp _ _ _ _) _) _ _ _); refine sd_setLc (own := [("word", 3)]) (i := 2) rfl sc_event_in.nd rfl (by exact sl_event_in_event) (sw_true rfl (by exact sl_event_in_event) rfl (by decide +kernel)) (blkOk_by (N := N_event_in) (sc := defScope sevent_in) (by decide +kernel)) ?_)
  | ((with_reducible show sd _ (Stmt.Assign [Expr.Name "words" _] _ _) _ _ _); refine sd_nm v_event_in_words sc_event_in.nd ?_)
  | ((with_reducible show sd _ (Stmt.Assign [Expr.Name "event" _] _ _) _ _ _); refine sd_nm v_event_in_event sc_event_in.nd ?_)
  | fail)
local macro_rules | `(tactic| walk_at "pd.g") => `(tactic| first
  | ((with_reducible show gd _ (Expr.Name "words" _) _ _ _ _); refine gd_nm v_event_in_words sc_event_in.nd ?_)
  | ((with_reducible show gd _ (Expr.Name "event" _) _ _ _ _); refine gd_nm v_event_in_event sc_event_in.nd ?_)
  | ((with_reducible show gv _ (Expr.Name "word" _) _ _ _ _ _); refine gv_nmC (sc := defScope sevent_in) w_event_in_word sc_event_in.nd (by decide) ?_)
  | fail)
local macro_rules | `(tactic| walk_at "pd.call") => `(tactic| first
  | ((with_reducible show ed _ (Expr.Call (Expr.Attribute _ "split" _) (_ :: _) _ _) _ _ _); with_reducible refine ed_bm PySem.F.plainAttrs_str PySem.F.slot_str_split PySem.F.type_str_split ?_)
  | ((with_reducible show ed _ (Expr.Call (Expr.Name "is_event" _) (_ :: _) _ _) _ _ _); refine ed_callC ((ok_is_event (by assumption)).at_ _) (by assumption) (by decide) (g_is_event (by assumption)) ?_ (hg := by first | exact gl_of gl_event_in_is_event))
  | ((with_reducible show ed _ (Expr.Call (Expr.Name "number_in" _) (_ :: _) _ _) _ _ _); refine ed_callC ((ok_number_in (by assumption)).at_ _) (by assumption) (by decide) (g_number_in (by assumption)) ?_ (hg := by first | exact glB_of (sc := defScope sevent_in)))
  | fail)
local macro_rules | `(tactic| walk_at "pd.lc") => `(tactic| first
  | ((with_reducible show ed _ (Expr.ListComp _ [_] _ _) _ _ _); refine ed_lc (own := [("word", 3)]) [("word", 3)] rfl rfl sc_event_in.nd (blkOk_by (N := N_event_in) (sc := defScope sevent_in) (by decide +kernel)) ?_)
  | fail)
local macro_rules | `(tactic| walk_at "pd.it") => `(tactic| first
  | ((with_reducible show eid _ _ _ _ _ _); refine eid_of ?_)
  | fail)
theorem ok_event_in (T : T0 w K mg) : CallD P w K mg base 3 (He.ga K "event_in") 1 [] spEvIn := by
  obtain ⟨fd, F⟩ := f_event_in T
  refine CallD.mk0 (ps := ["text"]) F (fun _ _ _ _ _ _ us hl => match us, hl with | [_], _ => rfl) (fnD_of F sc_event_in fun cdv A outer s H F0 μ ds Qd Ed hr hl h => ?_)
  obtain ⟨z, rfl, hz, q⟩ := h
  have hw := split_weight z " " (by decide)
  have hp := split_pos z " "
  show sds _ _ [some (.str z), none, none, none] _ _
  refine sds_cons ?_
  walk_at "pd"
  refine mtd_split (by decide) (Nat.le_trans (Nat.add_le_add_right hz 2) (by decide)) ?_
  unfold evIn at q
  cases e : Txt.split z " " with
  | nil => rw [e] at hp; simp at hp
  | cons w r =>
    rw [e] at q hw
    rw [List.map_cons, List.sum_cons, List.length_cons] at hw
    have hwl : ∀ x ∈ r, x.length ≤ 1000 := fun x hx => by
      have := mem_sum hx
      omega
    rw [List.map_cons]
    walk_at "pd"
    refine lcd_fm (fun _ => true) (fun d => numD (numIn (PD.strOf d) 7)) ?_
    walk_at "pd"
    rw [cutD_from (by decide) (by simp; omega)]
    rw [show List.drop (Int.toNat 1) (D.str w :: List.map D.str r) = r.map .str from rfl]
    walk_at "pd"
    refine ⟨by rw [List.length_map]; omega, trivial, fun d hd => ?_, ?_⟩
    · obtain ⟨x, hx, rfl⟩ := List.mem_map.mp hd
      have := hwl x hx
      walk_at "pd"
      refine ⟨rfl, rfl, fun _ => ?_⟩
      walk_at "pd"
      exact ⟨x, 7, rfl, by omega, by decide, rfl, rfl⟩
    have em : (List.map (fun d => numD (numIn (PD.strOf d) 7)) (List.filter (fun _ => true) (List.map D.str r))) = r.map fun x => numD (numIn x 7) := by
      rw [List.filter_eq_self.mpr fun _ _ => rfl, List.map_map]; rfl
    rw [em]
    have hn : (r.map fun x => numD (numIn x 7)).length ≤ 999 := by rw [List.length_map]; omega
    have ht : ∀ y ∈ (r.map fun x => numD (numIn x 7)), (tyN y).isSome = true := fun y hy => by
      obtain ⟨x, -, rfl⟩ := List.mem_map.mp hy; exact numD_ty _
    change Qd (if isEvB (.tup (.str w :: r.map fun x => numD (numIn x 7))) = true then .tup (.str w :: r.map fun x => numD (numIn x 7)) else .non) μ at q
    generalize (r.map fun x => numD (numIn x 7)) = L at hn ht q ⊢
    refine ⟨_, .lst _, ?_⟩
    walk_at "pd"
    refine ⟨small_le (by simp; omega), ?_⟩
    rw [List.append_nil]
    refine ⟨by simp; omega, ?_⟩
    walk_at "pd"
    refine ⟨_, rfl, ⟨rfl, fun xs e => ?_⟩, ?_⟩
    · cases e
      refine ⟨by simp; omega, fun y hy => ?_⟩
      rcases List.mem_cons.mp hy with rfl | hy
      · rfl
      · exact ht y hy
    refine exB ?_
    refine ifb (fun h => ?_) (fun h => ?_)
    · rw [if_pos h] at q
      walk_at "pd"
      exact q
    · rw [if_neg (by rw [h]; decide)] at q
      walk_at "pd"
      exact q
end
end
section
variable {P : Program} {w : World} {K : PySem.W.Frag} {mg : Str → Option Value} {base : Heap}
/-! ### a history read -/
/-- what is read of a text's parts -/
def partsH (z : Str) : List Str := if z = "" then [] else Txt.split z "; "
def okPart (z : Str) : Bool := isEvB (evIn z)
def spHRead (K : PySem.W.Frag) : SpD := fun ds μ Q E => ∃ z, ds = [.ref (He.ga K "History"), .str z] ∧ z.length ≤ 90000 ∧ (partsH z).length ≤ 900 ∧ (∀ x ∈ partsH z, x.length ≤ 900) ∧
  (∀ i x, (partsH z)[i]? = some x → (∀ y ∈ (partsH z).take i, okPart y = true) → okPart x = false → ∀ p xs, E (.ref (He.ga K "InvalidText")) ["at"] [.int (i : Nat)] ((p, .lst xs) :: μ)) ∧
  ((∀ y ∈ partsH z, okPart y = true) → Q (histD (He.ga K "History") ((partsH z).map evIn)) μ)
theorem numD_ask {z : Str} (h : isEvB (evIn z) = true) : EvAsk (evIn z) := by
  cases e : evIn z with
  | tup xs =>
    rw [e] at h
    refine ⟨rfl, fun ys hy => ?_⟩
    cases hy
    unfold evIn at e
    cases es : Txt.split z " " with
    | nil => rw [es] at e; cases e
    | cons w r =>
      rw [es] at e
      cases e
      have hm : r.length ≤ 2 := by
        have h2 : (decide (w ∈ (["new", "join", "back", "sweep"] : List Str)) && ((r.map fun x => numD (numIn x 7)).all isNatB && decide ((r.map fun x => numD (numIn x 7)).length = many w))) = true := h
        rw [Bool.and_eq_true, Bool.and_eq_true] at h2
        have h3 := of_decide_eq_true h2.2.2
        rw [List.length_map] at h3
        have := many_le w; omega
      refine ⟨by rw [List.length_cons, List.length_map]; omega, fun y hy => ?_⟩
      rcases List.mem_cons.mp hy with rfl | hy
      · rfl
      · obtain ⟨x, -, rfl⟩ := List.mem_map.mp hy; exact numD_ty _
  | _ => rw [e] at h; cases h
section
abbrev N_History_read : List Str := ["cls", "text", "events", "at", "part", "event"]
theorem sc_History_read : FnScope N_History_read ["cls", "text"] (defScope sHistory_read) := ⟨rfl, rfl, rfl, by decide +kernel, rfl, by decide +kernel, by decide +kernel⟩
theorem v_History_read_cls : Nm N_History_read (defScope sHistory_read) 0 "cls" := ⟨rfl, by decide +kernel, by decide +kernel, by decide +kernel⟩
theorem v_History_read_text : Nm N_History_read (defScope sHistory_read) 1 "text" := ⟨rfl, by decide +kernel, by decide +kernel, by decide +kernel⟩
theorem v_History_read_events : Nm N_History_read (defScope sHistory_read) 2 "events" := ⟨rfl, by decide +kernel, by decide +kernel, by decide +kernel⟩
theorem v_History_read_at : Nm N_History_read (defScope sHistory_read) 3 "at" := ⟨rfl, by decide +kernel, by decide +kernel, by decide +kernel⟩
theorem v_History_read_part : Nm N_History_read (defScope sHistory_read) 4 "part" := ⟨rfl, by decide +kernel, by decide +kernel, by decide +kernel⟩
theorem v_History_read_event : Nm N_History_read (defScope sHistory_read) 5 "event" := ⟨rfl, by decide +kernel, by decide +kernel, by decide +kernel⟩
theorem gl_History_read_InvalidText : (defScope sHistory_read).names.lookup ("InvalidText" : Str) = some .globalImplicit := by decide +kernel
theorem gl_History_read_enumerate : (defScope sHistory_read).names.lookup ("enumerate" : Str) = some .globalImplicit := by decide +kernel
theorem gl_History_read_event_in : (defScope sHistory_read).names.lookup ("event_in" : Str) = some .globalImplicit := by decide +kernel
local macro_rules | `(tactic| walk_at "pd.nm") => `(tactic| first
  | ((with_reducible show ed _ (Expr.Name "cls" _) _ _ _); first | refine ed_nm v_History_read_cls rfl ?_ | refine ed_nmB (sc := defScope sHistory_read) v_History_read_cls rfl ?_)
  | ((with_reducible show ed _ (Expr.Name "text" _) _ _ _); first | refine ed_nm v_History_read_text rfl ?_ | refine ed_nmB (sc := defScope sHistory_read) v_History_read_text rfl ?_)
  | ((with_reducible show ed _ (Expr.Name "events" _) _ _ _); first | refine ed_nm v_History_read_events rfl ?_ | refine ed_nmB (sc := defScope sHistory_read) v_History_read_events rfl ?_)
  | ((with_reducible show ed _ (Expr.Name "at" _) _ _ _); first | refine ed_nm v_History_read_at rfl ?_ | refine ed_nmB (sc := defScope sHistory_read) v_History_read_at rfl ?_)
  | ((with_reducible show ed _ (Expr.Name "part" _) _ _ _); first | refine ed_nm v_History_read_part rfl ?_ | refine ed_nmB (sc := defScope sHistory_read) v_History_read_part rfl ?_)
  | ((with_reducible show ed _ (Expr.Name "event" _) _ _ _); first | refine ed_nm v_History_read_event rfl ?_ | refine ed_nmB (sc := defScope sHistory_read) v_History_read_event rfl ?_)
  | ((with_reducible show ed _ (Expr.Name "InvalidText" _) _ _ _); refine ed_gref (g_InvalidText (by assumption)) ?_ (hg := by first | exact gl_of gl_History_read_InvalidText))
  | ((with_reducible show ed _ (Expr.Name "enumerate" _) _ _ _); refine ed_ty (n := "enumerate") (b_enumerate (by assumption)) bb_enumerate ?_ (hg := by first | exact gl_of gl_History_read_enumerate))
  | fail)
local macro_rules | `(tactic| walk_at "pd.set") => `(tactic| first
  | ((with_reducible show sd _ (Stmt.Assign [Expr.Name "events" _] _ _) _ _ _); refine sd_nm v_History_read_events sc_History_read.nd ?_)
  | ((with_reducible show sd _ (Stmt.Assign [Expr.Name "at" _] _ _) _ _ _); refine sd_nm v_History_read_at sc_History_read.nd ?_)
  | ((with_reducible show sd _ (Stmt.Assign [Expr.Name "part" _] _ _) _ _ _); refine sd_nm v_History_read_part sc_History_read.nd ?_)
  | ((with_reducible show sd _ (Stmt.Assign [Expr.Name "event" _] _ _) _ _ _); refine sd_nm v_History_read_event sc_History_read.nd ?_)
  | fail)
local macro_rules | `(tactic| walk_at "pd.g") => `(tactic| first
  | ((with_reducible show gd _ (Expr.Name "events" _) _ _ _ _); refine gd_nm v_History_read_events sc_History_read.nd ?_)
  | ((with_reducible show gd _ (Expr.Name "at" _) _ _ _ _); refine gd_nm v_History_read_at sc_History_read.nd ?_)
  | ((with_reducible show gd _ (Expr.Name "part" _) _ _ _ _); refine gd_nm v_History_read_part sc_History_read.nd ?_)
  | ((with_reducible show gd _ (Expr.Name "event" _) _ _ _ _); refine gd_nm v_History_read_event sc_History_read.nd ?_)
  | fail)
local macro_rules | `(tactic| walk_at "pd.call") => `(tactic| first
  | ((with_reducible show ed _ (Expr.Call (Expr.Name "cls" _) (_ :: _) _ _) _ _ _); refine ed_makeL v_History_read_cls rfl (mk_History_1 (by assumption)) (by assumption) (by decide) ?_)
  | ((with_reducible show ed _ (Expr.Call (Expr.Name "event_in" _) (_ :: _) _ _) _ _ _); refine ed_callC ((ok_event_in (by assumption)).at_ _) (by assumption) (by decide) (g_event_in (by assumption)) ?_ (hg := by first | exact gl_of gl_History_read_event_in))
  | ((with_reducible show ed _ (Expr.Call (Expr.Attribute _ "append" _) (_ :: _) _ _) _ _ _); with_reducible refine ed_bm PySem.F.plainAttrs_list PySem.F.slot_list_append PySem.F.type_list_append ?_)
  | ((with_reducible show ed _ (Expr.Call (Expr.Attribute _ "split" _) (_ :: _) _ _) _ _ _); with_reducible refine ed_bm PySem.F.plainAttrs_str PySem.F.slot_str_split PySem.F.type_str_split ?_)
  | fail)
local macro_rules | `(tactic| walk_at "pd.it") => `(tactic| first
  | ((with_reducible show eid _ _ (Expr.Call (Expr.Name "enumerate" _) [_] _ _) _ _ _); refine eid_enumS (b_enumerate (by assumption)) ?_ (hg := by first | exact gl_of gl_History_read_enumerate))
  | ((with_reducible show eid _ _ _ _ _ _); refine eid_of ?_)
  | fail)
local macro_rules | `(tactic| walk_at "pd.raise") => `(tactic| first
  | ((with_reducible show sd _ (Stmt.Raise (some (Expr.Call (Expr.Name "InvalidText" _) _ _ _)) none _) _ _ _); refine sd_raiseOwn rfl (x_InvalidText (by assumption)) (by assumption) (by decide) (g_InvalidText (by assumption)) ?_ (hg := by first | exact gl_of gl_History_read_InvalidText))
  | fail)
theorem ok_History_read (T : T0 w K mg) : CallD P w K mg base 5 (He5.wf K (He.ga K "History") "classmethod" "read") 2 [] (spHRead K) := by
  obtain ⟨fd, F⟩ := f_History_read T
  refine CallD.mk1 (ps := ["cls", "text"]) F (fun _ _ _ _ _ _ us hl => match us, hl with | [_, _], _ => rfl) (fnD_of F sc_History_read fun cdv A outer s H F0 μ ds Qd Ed hr hl h => ?_)
  obtain ⟨z, rfl, hz, hn, hl2, hE, q⟩ := h
  show sds _ _ [some (.ref (He.ga K "History")), some (.str z), none, none, none, none] _ _
  refine sds_cons ?_
  refine sd_nm v_History_read_events sc_History_read.nd ?_
  refine ed_lstO ?_
  walk_at "pd"
  intro p
  walk_at "pd"
  refine sd_for rfl ?_
  walk_at "pd1"
  refine ea_cons ?_
  refine ed_mono (Q := fun d μ' => d = .lst ((partsH z).map .str) ∧ μ' = (p, .lst []) :: μ) ?_ ?_
  · walk_at "pd"
    unfold partsH
    refine ifn (fun h => ?_) (fun h => ?_)
    · rw [if_neg h]
      walk_at "pd"
      refine mtd_split (by decide) (Nat.le_trans (Nat.add_le_add_right hz 2) (by decide)) ?_
      exact ⟨rfl, rfl⟩
    · rw [if_pos h]
      walk_at "pd"
      exact ⟨rfl, rfl⟩
  rintro d μ' ⟨rfl, rfl⟩
  walk_at "pd"
  refine ⟨fun i δ' μ' => ∃ x3 x4 x5, δ' = [some (.ref (He.ga K "History")), some (.str z), some (.ref p), x3, x4, x5] ∧ μ' = (p, .lst (((partsH z).take i).map evIn)) :: μ ∧ ∀ y ∈ (partsH z).take i, okPart y = true,
    ⟨_, _, _, rfl, rfl, fun y hy => (List.not_mem_nil hy).elim⟩, fun _ _ _ _ _ => .lst _, ?_, ?_⟩
  · rintro i d δ' μ' hd ⟨x3, x4, x5, rfl, rfl, h⟩
    obtain ⟨y, hy, rfl⟩ := enumD_get hd
    rw [List.getElem?_map] at hy
    obtain ⟨x, hx, rfl⟩ : ∃ x, (partsH z)[i]? = some x ∧ y = .str x := by
      cases e : (partsH z)[i]? with
      | none => rw [e] at hy; cases hy
      | some x => rw [e] at hy; cases hy; exact ⟨x, rfl, rfl⟩
    have hi : i < (partsH z).length := (List.getElem?_eq_some_iff.mp hx).1
    have htk : (partsH z).take (i + 1) = (partsH z).take i ++ [x] := by rw [List.take_succ, hx]; rfl
    walk_at "pd"
    refine ⟨x, rfl, hl2 x (List.mem_of_getElem? hx), ?_⟩
    cases e : okPart x with
    | false =>
      have e' : isEvB (evIn x) = false := e
      rw [if_neg (by rw [e']; decide)]
      walk_at "pd"
      refine iteTr rfl ?_
      walk_at "pd"
      exact hE i x hx h e p _
    | true =>
      have e' : isEvB (evIn x) = true := e
      rw [if_pos e']
      have hN : (evIn x).isN = false := by
        cases ee : evIn x with
        | non => rw [ee] at e'; cases e'
        | _ => rfl
      walk_at "pd"
      refine iteFr hN ?_
      walk_at "pd"
      refine mtd_append (μ1 := []) (small_lt (by rw [List.length_map, List.length_take]; omega)) ?_
      walk_at "pd"
      refine ⟨_, _, _, rfl, ?_, fun y hy => ?_⟩
      · rw [htk, List.map_append]; rfl
      · rw [htk] at hy
        rcases List.mem_append.mp hy with hy | hy
        · exact h y hy
        · rw [List.mem_singleton.mp hy]; exact e
  · rintro δ' μ' ⟨x3, x4, x5, rfl, rfl, h⟩
    rw [enumD_len, List.length_map, List.take_length] at h
    rw [enumD_len, List.length_map, List.take_length]
    refine sds_cons ?_
    refine sd_ret (ed_dropL ?_)
    walk_at "pd"
    refine ⟨_, rfl, Or.inl ⟨_, ⟨.own List.mem_cons_self, by rw [List.length_map]; omega, fun y hy => ?_⟩, fun at_ p dx hb => ?_, fun _ => ⟨[_], μ, rfl, q h⟩⟩⟩
    · obtain ⟨x, hx, rfl⟩ := List.mem_map.mp hy
      exact numD_ask (h x hx)
    · rw [badAt_all fun y hy => by obtain ⟨x, hx, rfl⟩ := List.mem_map.mp hy; exact h x hx] at hb
      cases hb
end
end
section
variable {P : Program} {w : World} {K : PySem.W.Frag} {mg : Str → Option Value} {base : Heap}
/-! ### what is written is read -/
namespace HX
open TL
theorem dig_num (n : Nat) : (numL n).all isDig = true := List.all_eq_true.mpr fun c hc => by
  have h := numL_digits n c hc
  have key : ∀ c, 48 ≤ c ∧ c ≤ 57 → isDig c = true := fun c h => by
    obtain ⟨a, b⟩ := h
    have : c = 48 ∨ c = 49 ∨ c = 50 ∨ c = 51 ∨ c = 52 ∨ c = 53 ∨ c = 54 ∨ c = 55 ∨ c = 56 ∨ c = 57 := by omega
    rcases this with rfl | rfl | rfl | rfl | rfl | rfl | rfl | rfl | rfl | rfl <;> decide +kernel
  exact key c h
theorem head_num : ∀ n : Nat, 1 ≤ n → (numL n).head? ≠ some 48 := by
  intro n
  induction n using Nat.strongRecOn with
  | _ n ih =>
    intro h
    by_cases h10 : n < 10
    · rw [numL_lt h10]; simp; omega
    · rw [numL_step (by omega)]
      have := ih (n / 10) (by omega) (by omega)
      cases e : numL (n / 10) with
      | nil => exact absurd e (numL_ne _)
      | cons c r => rw [e] at this; simpa using this
theorem numIn_num {n : Nat} (h : n < 10000000) : numIn (numS n) 7 = some (n : Int) := by
  have hl := numS_len h
  have e1 : (numS n).cps.toList = numL n := numS_tl n
  have e2 : (numS n).length = (numL n).length := by rw [len_tl, numS_tl]
  have h1 : 1 ≤ (numL n).length := List.length_pos_iff.mpr (numL_ne n)
  unfold numIn
  rw [if_pos ⟨by omega, by omega, by rw [e1]; exact dig_num n⟩, if_neg fun hh => ?_]
  · exact int_num (by omega)
  · obtain ⟨h2, h3⟩ := hh
    rw [e1] at h3
    by_cases h0 : n = 0
    · subst h0
      rw [e2, numL_lt (by decide)] at h2; simp at h2
    · exact head_num n (by omega) h3
theorem kinds_free : ∀ k ∈ (["new", "join", "back", "sweep"] : List Str), 32 ∉ tl k ∧ 59 ∉ tl k := by decide +kernel
theorem evTxt_split {e : Str × List Nat} (E : EvN e) : Txt.split (evTxt e) " " = e.1 :: e.2.map numS := by
  refine split_join (y := " ") (s := 32) (S := []) rfl (by decide +kernel) (by simp) fun p hp => ?_
  rcases List.mem_cons.mp hp with rfl | hp
  · exact (kinds_free _ E.k).1
  · obtain ⟨n, -, rfl⟩ := List.mem_map.mp hp
    rw [numS_tl]; exact numL_free (by decide)
theorem evIn_txt {e : Str × List Nat} (E : EvN e) : evIn (evTxt e) = evD e.1 e.2 := by
  unfold evIn evD
  rw [evTxt_split E]
  show D.tup (D.str e.1 :: (e.2.map numS).map fun x => numD (numIn x 7)) = _
  rw [List.map_map]
  congr 2
  refine List.map_congr_left fun n hn => ?_
  show numD (numIn (numS n) 7) = _
  rw [numIn_num (E.s n hn)]; rfl
theorem evTxt_tl {e : Str × List Nat} : tl (evTxt e) = joinL [32] ((e.1 :: e.2.map numS).map tl) := by
  unfold evTxt; rw [TL.join_eq, TL.tl_join]; rfl
theorem joinL_free {c : Nat} {S : List Nat} (hS : c ∉ S) : ∀ {ps : List (List Nat)}, (∀ p ∈ ps, c ∉ p) → c ∉ joinL S ps
  | [], _ => by simp [joinL]
  | [p], h => by simpa [joinL] using h p List.mem_cons_self
  | p :: q :: r, h => by
    show c ∉ p ++ (S ++ joinL S (q :: r))
    have ih := joinL_free hS (ps := q :: r) fun x hx => h x (List.mem_cons_of_mem _ hx)
    have h1 := h p List.mem_cons_self
    simp only [List.mem_append, not_or]
    exact ⟨h1, hS, ih⟩
theorem evTxt_free {e : Str × List Nat} (E : EvN e) : 59 ∉ tl (evTxt e) := by
  rw [evTxt_tl]
  refine joinL_free (by decide) fun p hp => ?_
  obtain ⟨x, hx, rfl⟩ := List.mem_map.mp hp
  rcases List.mem_cons.mp hx with rfl | hx
  · exact (kinds_free _ E.k).2
  · obtain ⟨n, -, rfl⟩ := List.mem_map.mp hx
    rw [numS_tl]; exact numL_free (by decide)
theorem evTxt_ne {e : Str × List Nat} (E : EvN e) : tl (evTxt e) ≠ [] := by
  have hk : ∀ k ∈ (["new", "join", "back", "sweep"] : List Str), tl k ≠ [] := by decide +kernel
  rw [evTxt_tl]
  cases e2 : e.2.map numS with
  | nil => simpa [joinL] using hk _ E.k
  | cons x xs => 
    show tl e.1 ++ _ ≠ []
    intro h
    exact hk _ E.k (List.append_eq_nil_iff.mp h).1
theorem parts_hist {es : List (Str × List Nat)} (E : EvsN es) : partsH (histTxt es) = es.map evTxt := by
  unfold partsH
  cases es with
  | nil => rw [if_pos (show histTxt [] = "" from rfl)]; rfl
  | cons e es =>
    have hne : histTxt (e :: es) ≠ "" := fun h => by
      have h2 : tl (histTxt (e :: es)) = [] := by rw [h]; rfl
      unfold histTxt at h2
      rw [TL.join_eq, TL.tl_join] at h2
      cases es with
      | nil => exact evTxt_ne (E.e e List.mem_cons_self) (by simpa [joinL] using h2)
      | cons f fs =>
        have : tl (evTxt e) ++ _ = [] := h2
        exact evTxt_ne (E.e e List.mem_cons_self) (List.append_eq_nil_iff.mp this).1
    rw [if_neg hne]
    refine split_join (y := "; ") (s := 59) (S := [32]) rfl (by decide +kernel) (by simp) fun p hp => ?_
    obtain ⟨x, hx, rfl⟩ := List.mem_map.mp hp
    exact evTxt_free (E.e x hx)
end HX
end
section
variable {P : Program} {w : World} {K : PySem.W.Frag} {mg : Str → Option Value} {base : Heap}
/-! ### the records of an event -/
def recs (e : Str × List Nat) : List Nat := if e.1 = "new" then e.2.drop 1 else e.2
theorem recs_len (e : Str × List Nat) : (recs e).length ≤ e.2.length := by
  unfold recs; split
  · rw [List.length_drop]; omega
  · exact Nat.le_refl _
def natsD (l : List Nat) : List D := l.map fun n : Nat => D.int (n : Int)
def spRecsOf : SpD := fun ds μ Q _ => ∃ e, ds = [evD e.1 e.2] ∧ EvN e ∧ Q (.tup (natsD (recs e))) μ
section
abbrev N_records_of : List Str := ["event"]
theorem sc_records_of : FnScope N_records_of ["event"] (defScope srecords_of) := ⟨rfl, rfl, rfl, by decide +kernel, rfl, by decide +kernel, by decide +kernel⟩
theorem v_records_of_event : Nm N_records_of (defScope srecords_of) 0 "event" := ⟨rfl, by decide +kernel, by decide +kernel, by decide +kernel⟩
local macro_rules | `(tactic| walk_at "pd.nm") => `(tactic| first
  | ((with_reducible show ed _ (Expr.Name "event" _) _ _ _); first | refine ed_nm v_records_of_event rfl ?_ | refine ed_nmB (sc := defScope srecords_of) v_records_of_event rfl ?_)
  | fail)
local macro_rules | `(tactic| walk_at "pd.it") => `(tactic| first
  | ((with_reducible show eid _ _ _ _ _ _); refine eid_of ?_)
  | fail)
theorem ok_records_of (T : T0 w K mg) : CallD P w K mg base 1 (He.ga K "records_of") 1 [] spRecsOf := by
  obtain ⟨fd, F⟩ := f_records_of T
  refine CallD.mk0 (ps := ["event"]) F (fun _ _ _ _ _ _ us hl => match us, hl with | [_], _ => rfl) (fnD_of F sc_records_of fun cdv A outer s H F0 μ ds Qd Ed hr hl h => ?_)
  obtain ⟨e, rfl, E, q⟩ := h
  have hn := E.n
  have hm := many_le e.1
  show sds _ _ [some (evD e.1 e.2)] _ _
  unfold evD
  refine sds_cons ?_
  walk_at "pd"
  have e0 : many "new" = 2 := rfl
  refine ifd (fun h1 => ?_) (fun h1 => ?_)
  · rw [h1, e0] at hn
    walk_at "pd"
    rw [cutD_from (by decide) (by simp; omega)]
    have : List.drop (Int.toNat 2) (D.str e.1 :: e.2.map fun n : Nat => D.int (n : Int)) = natsD (recs e) := by
      unfold natsD recs
      rw [if_pos h1, List.map_drop]; rfl
    rw [this]
    exact q
  · walk_at "pd"
    rw [cutD_from (by decide) (by simp; omega)]
    have : List.drop (Int.toNat 1) (D.str e.1 :: e.2.map fun n : Nat => D.int (n : Int)) = natsD (recs e) := by
      unfold natsD recs
      rw [if_neg h1]; rfl
    rw [this]
    exact q
end
/-! ### the records of a history -/
def allRecs (es : List (Str × List Nat)) : List Nat := es.flatMap recs
theorem allRecs_len {es : List (Str × List Nat)} (h : ∀ e ∈ es, EvN e) : (allRecs es).length ≤ 2 * es.length := by
  unfold allRecs
  induction es with
  | nil => simp
  | cons e es ih =>
    have h1 := ih fun x hx => h x (List.mem_cons_of_mem _ hx)
    have h2 := recs_len e
    have h3 := (h e List.mem_cons_self).n
    have h4 := many_le e.1
    rw [List.flatMap_cons, List.length_append, List.length_cons]; omega
def spRecords (K : PySem.W.Frag) : SpD := fun ds μ Q _ => ∃ es, ds = [histD (He.ga K "History") (evDs es)] ∧ EvsN es ∧ es.length ≤ 31 ∧
  ∀ ns' : List Int, ns'.Pairwise (· < ·) → (∀ k, k ∈ ns' ↔ k ∈ (allRecs es).map fun n : Nat => (n : Int)) → Q (.tup (ns'.map .int)) μ
section
abbrev N_History_records : List Str := ["self", "event", "record"]
theorem sc_History_records : FnScope N_History_records ["self"] (defScope sHistory_records) := ⟨rfl, rfl, rfl, by decide +kernel, rfl, by decide +kernel, by decide +kernel⟩
theorem v_History_records_self : Nm N_History_records (defScope sHistory_records) 0 "self" := ⟨rfl, by decide +kernel, by decide +kernel, by decide +kernel⟩
theorem w_History_records_event : NmB N_History_records 1 "event" := ⟨rfl, by decide +kernel, by decide +kernel⟩
theorem w_History_records_record : NmB N_History_records 2 "record" := ⟨rfl, by decide +kernel, by decide +kernel⟩
theorem gl_History_records_set : (defScope sHistory_records).names.lookup ("set" : Str) = some .globalImplicit := by decide +kernel
theorem gl_History_records_sorted : (defScope sHistory_records).names.lookup ("sorted" : Str) = some .globalImplicit := by decide +kernel
theorem gl_History_records_tuple : (defScope sHistory_records).names.lookup ("tuple" : Str) = some .globalImplicit := by decide +kernel
local macro_rules | `(tactic| walk_at "pd.nm") => `(tactic| first
  | ((with_reducible show ed _ (Expr.Name "self" _) _ _ _); first | refine ed_nm v_History_records_self rfl ?_ | refine ed_nmB (sc := defScope sHistory_records) v_History_records_self rfl ?_)
  | ((with_reducible show ed _ (Expr.Name "event" _) _ _ _); refine ed_nmC (sc := defScope sHistory_records) w_History_records_event rfl ?_)
  | ((with_reducible show ed _ (Expr.Name "record" _) _ _ _); refine ed_nmC (sc := defScope sHistory_records) w_History_records_record rfl ?_)
  | ((with_reducible show ed _ (Expr.Name "int" _) _ _ _); refine ed_ty (n := "int") (b_int (by assumption)) bb_int ?_ (hg := by first | exact glB_of (sc := defScope sHistory_records)))
  | ((with_reducible show ed _ (Expr.Name "set" _) _ _ _); refine ed_ty (n := "set") (b_set (by assumption)) bb_set ?_ (hg := by first | exact gl_of gl_History_records_set))
  | ((with_reducible show ed _ (Expr.Name "tuple" _) _ _ _); refine ed_ty (n := "tuple") (b_tuple (by assumption)) bb_tuple ?_ (hg := by first | exact gl_of gl_History_records_tuple))
  | fail)
local macro_rules | `(tactic| walk_at "pd.g") => `(tactic| first
  | ((with_reducible show gv _ (Expr.Name "event" _) _ _ _ _ _); refine gv_nmC (sc := defScope sHistory_records) w_History_records_event sc_History_records.nd (by decide) ?_)
  | ((with_reducible show gv _ (Expr.Name "record" _) _ _ _ _ _); refine gv_nmC (sc := defScope sHistory_records) w_History_records_record sc_History_records.nd (by decide) ?_)
  | fail)
local macro_rules | `(tactic| walk_at "pd.call") => `(tactic| first
  | ((with_reducible show ed _ (Expr.Call (Expr.Name "sorted" _) [Expr.Call (Expr.Name "set" _) [_] _ _] _ _) _ _ _); refine ed_sortedSet rfl (b_sorted (by assumption)) (b_set (by assumption)) ?_ (hg1 := by first | exact gl_of gl_History_records_sorted) (hg2 := by first | exact gl_of gl_History_records_set))
  | ((with_reducible show ed _ (Expr.Call (Expr.Name "tuple" _) (_ :: _) _ _) _ _ _); refine ed_callTy (T := "tuple") (b_tuple (by assumption)) bb_tuple ?_ (hg := by first | exact gl_of gl_History_records_tuple))
  | ((with_reducible show ed _ (Expr.Call (Expr.Name "sorted" _) (_ :: _) _ _) _ _ _); refine ed_callB (id := "sorted") (b_sorted (by assumption)) bb_sorted ?_ (hg := by first | exact gl_of gl_History_records_sorted))
  | ((with_reducible show ed _ (Expr.Call (Expr.Name "set" _) (_ :: _) _ _) _ _ _); refine ed_callTy (T := "set") (b_set (by assumption)) bb_set ?_ (hg := by first | exact gl_of gl_History_records_set))
  | ((with_reducible show ed _ (Expr.Call (Expr.Name "int" _) (_ :: _) _ _) _ _ _); refine ed_callTy (T := "int") (b_int (by assumption)) bb_int ?_ (hg := by first | exact glB_of (sc := defScope sHistory_records)))
  | ((with_reducible show ed _ (Expr.Call (Expr.Name "records_of" _) (_ :: _) _ _) _ _ _); refine ed_callC ((ok_records_of (by assumption)).at_ _) (by assumption) (by decide) (g_records_of (by assumption)) ?_ (hg := by first | exact glB_of (sc := defScope sHistory_records)))
  | fail)
local macro_rules | `(tactic| walk_at "pd.lc") => `(tactic| first
  | ((with_reducible show ed _ (Expr.ListComp _ [_, _] _ _) _ _ _); refine ed_lc2 (own := [("event", 1), ("record", 2)]) (vs1 := [2]) [("event", 1), ("record", 2)] rfl rfl sc_History_records.nd (blkOk_by (N := N_History_records) (sc := defScope sHistory_records) (by decide +kernel)) (by decide) ?_)
  | ((with_reducible show ed _ (Expr.ListComp _ [_] _ _) _ _ _); refine ed_lc (own := [("event", 1), ("record", 2)]) [("event", 1), ("record", 2)] rfl rfl sc_History_records.nd (blkOk_by (N := N_History_records) (sc := defScope sHistory_records) (by decide +kernel)) ?_)
  | fail)
local macro_rules | `(tactic| walk_at "pd.it") => `(tactic| first
  | ((with_reducible show eid _ _ _ _ _ _); refine eid_of ?_)
  | fail)
local macro_rules | `(tactic| walk_at "pd.fld") => `(tactic| first
  | ((with_reducible show ed _ (Expr.Attribute _ "events" _) _ _ _); refine ed_fld (c_History (by assumption)) (n_History_events (by assumption)) ?_)
  | fail)
theorem ok_History_records (T : T0 w K mg) : CallD P w K mg base 2 (pf K (He.ga K "History") "records") 1 [] (spRecords K) := by
  obtain ⟨fd, F⟩ := f_History_records T
  refine CallD.mk0 (ps := ["self"]) F (fun _ _ _ _ _ _ us hl => match us, hl with | [_], _ => rfl) (fnD_of F sc_History_records fun cdv A outer s H F0 μ ds Qd Ed hr hl h => ?_)
  obtain ⟨es, rfl, E, hn, q⟩ := h
  show sds _ _ [some (histD _ (evDs es)), none, none] _ _
  unfold histD
  refine sds_cons ?_
  walk_at "pd"
  show eid _ _ _ _ _ _
  walk_at "pd"
  refine ⟨fun i acc μ' => acc = natsD (allRecs (es.take i)) ∧ μ' = μ, ⟨rfl, rfl⟩, fun _ _ _ _ _ => trivial, ?_, ?_⟩
  · rintro i d acc μ' hd ⟨rfl, rfl⟩
    unfold evDs at hd
    rw [List.getElem?_map] at hd
    cases he : es[i]? with
    | none => rw [he] at hd; cases hd
    | some e =>
      rw [he] at hd
      cases hd
      have Ee := E.e e (List.mem_of_getElem? he)
      have hl1 := recs_len e
      have hl2 := Ee.n
      have hl3 := many_le e.1
      have hl4 := allRecs_len (es := es.take i) fun x hx => E.e x (List.mem_of_mem_take hx)
      have hl5 : (es.take i).length ≤ es.length := List.length_take_le' _ _
      walk_at "pd"
      unfold lcd1
      walk_at "pd"
      refine ⟨e, rfl, Ee, ?_⟩
      walk_at "pd"
      refine ⟨fun j acc' μ'' => acc' = natsD (allRecs (es.take i) ++ (recs e).take j) ∧ μ'' = μ', ⟨by rw [List.take_zero, List.append_nil], rfl⟩, ?_, ?_, ?_⟩
      · rintro j acc' μ'' hj ⟨rfl, rfl⟩
        refine ⟨trivial, ?_⟩
        unfold natsD
        rw [List.length_map, List.length_append, List.length_take]; omega
      · rintro j d1 acc' μ'' hd1 ⟨rfl, rfl⟩
        unfold natsD at hd1
        rw [List.getElem?_map] at hd1
        cases hr2 : (recs e)[j]? with
        | none => rw [hr2] at hd1; cases hd1
        | some r =>
          rw [hr2] at hd1
          cases hd1
          walk_at "pd"
          refine ⟨?_, rfl⟩
          unfold natsD
          rw [List.take_succ, hr2, ← List.append_assoc]
          simp
      · rintro acc' μ'' ⟨rfl, rfl⟩
        refine ⟨?_, rfl⟩
        have e1 : (natsD (recs e)).length = (recs e).length := by unfold natsD; rw [List.length_map]
        rw [e1, List.take_length]
        unfold allRecs
        rw [List.take_succ, he, List.flatMap_append]
        simp
  · rintro acc μ' ⟨rfl, rfl⟩
    have e1 : (evDs es).length = es.length := by unfold evDs; rw [List.length_map]
    rw [e1, List.take_length]
    have hl4 := allRecs_len E.e
    refine ⟨(allRecs es).map fun n : Nat => (n : Int), ?_, by rw [List.length_map]; omega, fun ns' h1 h2 => ?_⟩
    · unfold natsD; rw [List.map_map]; rfl
    walk_at "pd"
    exact q ns' h1 h2
end
/-! ### the references of a history -/
def refOf (e : Str × List Nat) : Option Nat := if e.1 = "new" then e.2.head? else none
def allRefs (es : List (Str × List Nat)) : List Nat := es.filterMap refOf
theorem allRefs_len (es : List (Str × List Nat)) : (allRefs es).length ≤ es.length := List.length_filterMap_le _ _
def spRefs (K : PySem.W.Frag) : SpD := fun ds μ Q _ => ∃ es, ds = [histD (He.ga K "History") (evDs es)] ∧ EvsN es ∧ es.length ≤ 31 ∧
  ∀ ns' : List Int, ns'.Pairwise (· < ·) → (∀ k, k ∈ ns' ↔ k ∈ (allRefs es).map fun n : Nat => (n : Int)) → Q (.tup (ns'.map .int)) μ
section
abbrev N_History_references : List Str := ["self", "event"]
theorem sc_History_references : FnScope N_History_references ["self"] (defScope sHistory_references) := ⟨rfl, rfl, rfl, by decide +kernel, rfl, by decide +kernel, by decide +kernel⟩
theorem v_History_references_self : Nm N_History_references (defScope sHistory_references) 0 "self" := ⟨rfl, by decide +kernel, by decide +kernel, by decide +kernel⟩
theorem w_History_references_event : NmB N_History_references 1 "event" := ⟨rfl, by decide +kernel, by decide +kernel⟩
theorem gl_History_references_set : (defScope sHistory_references).names.lookup ("set" : Str) = some .globalImplicit := by decide +kernel
theorem gl_History_references_sorted : (defScope sHistory_references).names.lookup ("sorted" : Str) = some .globalImplicit := by decide +kernel
theorem gl_History_references_tuple : (defScope sHistory_references).names.lookup ("tuple" : Str) = some .globalImplicit := by decide +kernel
local macro_rules | `(tactic| walk_at "pd.nm") => `(tactic| first
  | ((with_reducible show ed _ (Expr.Name "self" _) _ _ _); first | refine ed_nm v_History_references_self rfl ?_ | refine ed_nmB (sc := defScope sHistory_references) v_History_references_self rfl ?_)
  | ((with_reducible show ed _ (Expr.Name "event" _) _ _ _); refine ed_nmC (sc := defScope sHistory_references) w_History_references_event rfl ?_)
  | ((with_reducible show ed _ (Expr.Name "int" _) _ _ _); refine ed_ty (n := "int") (b_int (by assumption)) bb_int ?_ (hg := by first | exact glB_of (sc := defScope sHistory_references)))
  | ((with_reducible show ed _ (Expr.Name "set" _) _ _ _); refine ed_ty (n := "set") (b_set (by assumption)) bb_set ?_ (hg := by first | exact gl_of gl_History_references_set))
  | ((with_reducible show ed _ (Expr.Name "tuple" _) _ _ _); refine ed_ty (n := "tuple") (b_tuple (by assumption)) bb_tuple ?_ (hg := by first | exact gl_of gl_History_references_tuple))
  | fail)
local macro_rules | `(tactic| walk_at "pd.g") => `(tactic| first
  | ((with_reducible show gv _ (Expr.Name "event" _) _ _ _ _ _); refine gv_nmC (sc := defScope sHistory_references) w_History_references_event sc_History_references.nd (by decide) ?_)
  | fail)
local macro_rules | `(tactic| walk_at "pd.call") => `(tactic| first
  | ((with_reducible show ed _ (Expr.Call (Expr.Name "sorted" _) [Expr.Call (Expr.Name "set" _) [_] _ _] _ _) _ _ _); refine ed_sortedSet rfl (b_sorted (by assumption)) (b_set (by assumption)) ?_ (hg1 := by first | exact gl_of gl_History_references_sorted) (hg2 := by first | exact gl_of gl_History_references_set))
  | ((with_reducible show ed _ (Expr.Call (Expr.Name "tuple" _) (_ :: _) _ _) _ _ _); refine ed_callTy (T := "tuple") (b_tuple (by assumption)) bb_tuple ?_ (hg := by first | exact gl_of gl_History_references_tuple))
  | ((with_reducible show ed _ (Expr.Call (Expr.Name "sorted" _) (_ :: _) _ _) _ _ _); refine ed_callB (id := "sorted") (b_sorted (by assumption)) bb_sorted ?_ (hg := by first | exact gl_of gl_History_references_sorted))
  | ((with_reducible show ed _ (Expr.Call (Expr.Name "set" _) (_ :: _) _ _) _ _ _); refine ed_callTy (T := "set") (b_set (by assumption)) bb_set ?_ (hg := by first | exact gl_of gl_History_references_set))
  | ((with_reducible show ed _ (Expr.Call (Expr.Name "int" _) (_ :: _) _ _) _ _ _); refine ed_callTy (T := "int") (b_int (by assumption)) bb_int ?_ (hg := by first | exact glB_of (sc := defScope sHistory_references)))
  | fail)
local macro_rules | `(tactic| walk_at "pd.lc") => `(tactic| first
  | ((with_reducible show ed _ (Expr.ListComp _ [_] _ _) _ _ _); refine ed_lc (own := [("event", 1)]) [("event", 1)] rfl rfl sc_History_references.nd (blkOk_by (N := N_History_references) (sc := defScope sHistory_references) (by decide +kernel)) ?_)
  | fail)
local macro_rules | `(tactic| walk_at "pd.it") => `(tactic| first
  | ((with_reducible show eid _ _ _ _ _ _); refine eid_of ?_)
  | fail)
local macro_rules | `(tactic| walk_at "pd.fld") => `(tactic| first
  | ((with_reducible show ed _ (Expr.Attribute _ "events" _) _ _ _); refine ed_fld (c_History (by assumption)) (n_History_events (by assumption)) ?_)
  | fail)
theorem ok_History_references (T : T0 w K mg) : CallD P w K mg base 2 (pf K (He.ga K "History") "references") 1 [] (spRefs K) := by
  obtain ⟨fd, F⟩ := f_History_references T
  refine CallD.mk0 (ps := ["self"]) F (fun _ _ _ _ _ _ us hl => match us, hl with | [_], _ => rfl) (fnD_of F sc_History_references fun cdv A outer s H F0 μ ds Qd Ed hr hl h => ?_)
  obtain ⟨es, rfl, E, hn, q⟩ := h
  show sds _ _ [some (histD _ (evDs es)), none] _ _
  unfold histD
  refine sds_cons ?_
  walk_at "pd"
  show eid _ _ _ _ _ _
  walk_at "pd"
  have e1 : (evDs es).length = es.length := by unfold evDs; rw [List.length_map]
  refine ⟨by rw [e1]; omega, fun i acc μ' => acc = natsD (allRefs (es.take i)) ∧ μ' = μ, ⟨rfl, rfl⟩, ?_, ?_, ?_⟩
  · rintro i acc μ' hi ⟨rfl, rfl⟩
    refine ⟨trivial, ?_⟩
    have := allRefs_len (es.take i)
    unfold natsD
    rw [List.length_map]
    exact Nat.le_trans this (List.length_take_le _ _)
  · rintro i d acc μ' hd ⟨rfl, rfl⟩
    unfold evDs at hd
    rw [List.getElem?_map] at hd
    cases he : es[i]? with
    | none => rw [he] at hd; cases hd
    | some e =>
      rw [he] at hd
      cases hd
      have Ee := E.e e (List.mem_of_getElem? he)
      have et : allRefs (es.take (i + 1)) = allRefs (es.take i) ++ (refOf e).toList := by
        unfold allRefs
        rw [List.take_succ, he, List.filterMap_append]
        cases h : refOf e <;> simp [h]
      have hl2 := Ee.n
      unfold evD
      walk_at "pd"
      refine ifd (fun h1 => ?_) (fun h1 => ?_)
      · have e0 : many "new" = 2 := rfl
        rw [h1, e0] at hl2
        obtain ⟨kd, l⟩ := e
        obtain ⟨a, b, rfl⟩ : ∃ a b, l = [a, b] := by
          match l, hl2 with
          | [a, b], _ => exact ⟨a, b, rfl⟩
        walk_at "pd"
        refine ⟨?_, rfl⟩
        rw [et]
        have : refOf (kd, [a, b]) = some a := by unfold refOf; rw [if_pos h1]; rfl
        rw [this]
        unfold natsD
        simp
      · refine ⟨?_, rfl⟩
        rw [et]
        have : refOf e = none := by unfold refOf; rw [if_neg h1]
        rw [this]
        simp
  · rintro acc μ' ⟨rfl, rfl⟩
    rw [e1, List.take_length]
    have hl4 := allRefs_len es
    refine ⟨(allRefs es).map fun n : Nat => (n : Int), ?_, by rw [List.length_map]; omega, fun ns' h1 h2 => ?_⟩
    · unfold natsD; rw [List.map_map]; rfl
    walk_at "pd"
    exact q ns' h1 h2
end
end
section
variable {P : Program} {w : World} {K : PySem.W.Frag} {mg : Str → Option Value} {base : Heap}
/-! ### what slices take -/
open PDS
theorem pick_rev {α : Type} (xs : List α) : pick xs none none (some (-1)) = xs.reverse := by
  unfold pick placesOf
  have e : Builtin.Slice.sliceAdjust none none (stepOf (some (-1))) (xs.length : Int) = ((xs.length : Int) - 1, -1) := rfl
  rw [e]
  have ep : Builtin.Slice.slicePlaces ((xs.length : Int) - 1) (-1) (stepOf (some (-1))) = xs.length := by
    show (if (-1 : Int) > 0 then _ else (if (xs.length : Int) - 1 > -1 then ((xs.length : Int) - 1 - -1 - 1) / (- -1) + 1 else 0)).toNat = xs.length
    rw [if_neg (by decide)]
    have : (- -1 : Int) = 1 := rfl
    rw [this, Int.ediv_one]
    split <;> omega
  show ((List.range (Builtin.Slice.slicePlaces ((xs.length : Int) - 1) (-1) (stepOf (some (-1))))).map fun (m : Nat) => ((xs.length : Int) - 1 + (m : Int) * (-1)).toNat).filterMap (xs[·]?) = _
  rw [ep, List.filterMap_map]
  have key : ∀ k, k ≤ xs.length → (List.range k).filterMap ((fun x => xs[x]?) ∘ fun (m : Nat) => ((xs.length : Int) - 1 + (m : Int) * (-1)).toNat) = xs.reverse.take k := by
    intro k
    induction k with
    | zero => intro _; simp
    | succ k ih =>
      intro hk
      have e1 : ((xs.length : Int) - 1 + (k : Int) * (-1)).toNat = xs.length - 1 - k := by omega
      rw [List.range_succ, List.filterMap_append, ih (by omega), List.take_succ, List.getElem?_reverse (by omega)]
      simp only [List.filterMap_cons, List.filterMap_nil, Function.comp, e1]
      cases xs[xs.length - 1 - k]? <;> rfl
  rw [key _ (Nat.le_refl _), ← List.length_reverse, List.take_length]
theorem pick_evs (es : List (Str × List Nat)) (l u t : Option Int) : pick (evDs es) l u t = evDs (pick es l u t) := pick_map _ es l u t
theorem EvsN.pick {es : List (Str × List Nat)} (E : EvsN es) {l u t : Option Int} (h : stepOf t ≠ 0) : EvsN (pick es l u t) := ⟨fun x hx => E.e x (pick_mem hx), Nat.le_trans (pick_len es h) E.n⟩
/-! ### a slice of a history, one of its events -/
def spHGet (K : PySem.W.Frag) : SpD := fun ds μ Q _ => (∃ es l u t, ds = [histD (He.ga K "History") (evDs es), .slc l u t] ∧ EvsN es ∧ stepOf t ≠ 0 ∧ Q (histD (He.ga K "History") (evDs (pick es l u t))) μ) ∨
  (∃ es i e, ds = [histD (He.ga K "History") (evDs es), .int i] ∧ es.length ≤ 100 ∧ 0 ≤ i ∧ es[i.toNat]? = some e ∧ Q (evD e.1 e.2) μ)
section
abbrev N_History_getitem : List Str := ["self", "at"]
theorem sc_History_getitem : FnScope N_History_getitem ["self", "at"] (defScope sHistory_getitem) := ⟨rfl, rfl, rfl, by decide +kernel, rfl, by decide +kernel, by decide +kernel⟩
theorem v_History_getitem_self : Nm N_History_getitem (defScope sHistory_getitem) 0 "self" := ⟨rfl, by decide +kernel, by decide +kernel, by decide +kernel⟩
theorem v_History_getitem_at : Nm N_History_getitem (defScope sHistory_getitem) 1 "at" := ⟨rfl, by decide +kernel, by decide +kernel, by decide +kernel⟩
theorem gl_History_getitem_History : (defScope sHistory_getitem).names.lookup ("History" : Str) = some .globalImplicit := by decide +kernel
theorem gl_History_getitem_NoEvent : (defScope sHistory_getitem).names.lookup ("NoEvent" : Str) = some .globalImplicit := by decide +kernel
theorem gl_History_getitem_is_integer : (defScope sHistory_getitem).names.lookup ("is_integer" : Str) = some .globalImplicit := by decide +kernel
theorem gl_History_getitem_len : (defScope sHistory_getitem).names.lookup ("len" : Str) = some .globalImplicit := by decide +kernel
local macro_rules | `(tactic| walk_at "pd.nm") => `(tactic| first
  | ((with_reducible show ed _ (Expr.Name "self" _) _ _ _); first | refine ed_nm v_History_getitem_self rfl ?_ | refine ed_nmB (sc := defScope sHistory_getitem) v_History_getitem_self rfl ?_)
  | ((with_reducible show ed _ (Expr.Name "at" _) _ _ _); first | refine ed_nm v_History_getitem_at rfl ?_ | refine ed_nmB (sc := defScope sHistory_getitem) v_History_getitem_at rfl ?_)
  | ((with_reducible show ed _ (Expr.Name "History" _) _ _ _); refine ed_gref (g_History (by assumption)) ?_ (hg := by first | exact gl_of gl_History_getitem_History))
  | ((with_reducible show ed _ (Expr.Name "NoEvent" _) _ _ _); refine ed_gref (g_NoEvent (by assumption)) ?_ (hg := by first | exact gl_of gl_History_getitem_NoEvent))
  | fail)
local macro_rules | `(tactic| walk_at "pd.call") => `(tactic| first
  | ((with_reducible show ed _ (Expr.Call (Expr.Name "is_integer" _) (_ :: _) _ _) _ _ _); refine ed_callC ((ok_is_integer (by assumption)).at_ _) (by assumption) (by decide) (g_is_integer (by assumption)) ?_ (hg := by first | exact gl_of gl_History_getitem_is_integer))
  | ((with_reducible show ed _ (Expr.Call (Expr.Name "History" _) [_] _ _) _ _ _); refine ed_makeC (mk_History_1 (by assumption)) (by assumption) (by decide) (g_History (by assumption)) ?_ (hg := by first | exact gl_of gl_History_getitem_History))
  | ((with_reducible show ed _ (Expr.Call (Expr.Name "len" _) (_ :: _) _ _) _ _ _); refine ed_callB (id := "len") (b_len (by assumption)) bb_len ?_ (hg := by first | exact gl_of gl_History_getitem_len))
  | fail)
local macro_rules | `(tactic| walk_at "pd.it") => `(tactic| first
  | ((with_reducible show eid _ _ _ _ _ _); refine eid_of ?_)
  | fail)
local macro_rules | `(tactic| walk_at "pd.fld") => `(tactic| first
  | ((with_reducible show ed _ (Expr.Attribute _ "events" _) _ _ _); refine ed_fld (c_History (by assumption)) (n_History_events (by assumption)) ?_)
  | fail)
local macro_rules | `(tactic| walk_at "pd.raise") => `(tactic| first
  | ((with_reducible show sd _ (Stmt.Raise (some (Expr.Call (Expr.Name "NoEvent" _) _ _ _)) none _) _ _ _); refine sd_raiseOwn rfl (x_NoEvent (by assumption)) (by assumption) (by decide) (g_NoEvent (by assumption)) ?_ (hg := by first | exact gl_of gl_History_getitem_NoEvent))
  | fail)
theorem ok_History_getitem (T : T0 w K mg) : CallD P w K mg base 5 (He.ma K (He.ga K "History") "__getitem__") 2 [] (spHGet K) := by
  obtain ⟨fd, F⟩ := f_History_getitem T
  refine CallD.mk0 (ps := ["self", "at"]) F (fun _ _ _ _ _ _ us hl => match us, hl with | [_, _], _ => rfl) (fnD_of F sc_History_getitem fun cdv A outer s H F0 μ ds Qd Ed hr hl h => ?_)
  rcases h with ⟨es, l, u, t, rfl, E, h0, q⟩ | ⟨es, i, e, rfl, hel, i0, he, q⟩
  · show sds _ _ [some (histD _ (evDs es)), some (.slc l u t)] _ _
    refine sds_cons ?_
    unfold histD
    walk_at "pd"
    refine Or.inr ⟨l, u, t, rfl, ?_⟩
    walk_at "pd"
    have hz : (pick (evDs es) l u t).length ≤ 1000 := by
      have h1 := pick_len (evDs es) (l := l) (u := u) h0
      have h2 := E.n
      have h3 : (evDs es).length = es.length := by unfold evDs; rw [List.length_map]
      omega
    refine ixd_slc h0 (small_le (Nat.le_trans hz (by decide))) ?_
    rw [pick_evs]
    walk_at "pd"
    exact hist_of (E.pick h0) (.tup _) q
  · have h3 : (evDs es).length = es.length := by unfold evDs; rw [List.length_map]
    have hi := (List.getElem?_eq_some_iff.mp he).1
    show sds _ _ [some (histD _ (evDs es)), some (.int i)] _ _
    refine sds_cons ?_
    unfold histD
    walk_at "pd"
    refine Or.inl ⟨.int i, rfl, rfl, ?_⟩
    walk_at "pd"
    refine iteFr rfl ?_
    walk_at "pd"
    refine ifd (fun h0 => ?_) (fun h0 => absurd i0 h0)
    walk_at "pd"
    refine ifn (fun h1 => absurd (by omega) h1) (fun h1 => ?_)
    walk_at "pd"
    obtain ⟨n, rfl⟩ : ∃ n : Nat, i = (n : Int) := ⟨i.toNat, by omega⟩
    refine ixd_tup (atI_nat (v := evD e.1 e.2) ?_) ?_
    · unfold evDs
      rw [Int.toNat_natCast] at he
      rw [List.getElem?_map, he]; rfl
    exact q
end
end
section
variable {P : Program} {w : World} {K : PySem.W.Frag} {mg : Str → Option Value} {base : Heap}
/-! ### reading a history's own text -/
theorem hread_of {K : PySem.W.Frag} {es : List (Str × List Nat)} {μ : Mu} {Q : D → Mu → Prop} {Er : Value → List Str → List D → Mu → Prop} (E : EvsN es) (q : Q (histD (He.ga K "History") (evDs es)) μ) : spHRead K [.ref (He.ga K "History"), .str (histTxt es)] μ Q Er := by
  have hl := histTxt_len E
  have hp := HX.parts_hist E
  have hok : ∀ y ∈ es.map evTxt, okPart y = true := fun y hy => by
    obtain ⟨e, he, rfl⟩ := List.mem_map.mp hy
    unfold okPart
    rw [HX.evIn_txt (E.e e he)]; exact (E.e e he).ok
  refine ⟨_, rfl, by omega, by rw [hp, List.length_map]; have := E.n; omega, fun x hx => ?_, fun i x hx _ hb p xs => ?_, fun _ => ?_⟩
  · rw [hp] at hx
    obtain ⟨e, he, rfl⟩ := List.mem_map.mp hx
    have := (E.e e he).tlen; omega
  · rw [hp] at hx
    rw [hok x (List.mem_of_getElem? hx)] at hb; cases hb
  · rw [hp, List.map_map]
    have e1 : es.map (evIn ∘ evTxt) = evDs es := by
      unfold evDs
      exact List.map_congr_left fun e he => HX.evIn_txt (E.e e he)
    rw [e1]; exact q
end
section
variable {P : Program} {w : World} {K : PySem.W.Frag} {mg : Str → Option Value} {base : Heap}
/-! ### what comes of another -/
open PDS
theorem sub_anti {α : Type} {xs ys : List α} (h : xs.Sublist ys) (h2 : ys.Sublist xs) : xs = ys := h.eq_of_length_le h2.length_le
theorem comes_iff {α : Type} [DecidableEq α] : ∀ (xs ys : List α), comesB xs ys = true ↔ xs.Sublist ys
  | [], ys => by simp [comesB]
  | x :: xs, [] => by simp [comesB]
  | x :: xs, y :: ys => by
    unfold comesB
    by_cases e : x = y
    · subst e
      rw [if_pos rfl, comes_iff xs ys]
      exact List.cons_sublist_cons.symm
    · rw [if_neg e, comes_iff (x :: xs) ys]
      constructor
      · exact fun h => h.cons y
      · intro h
        cases h with
        | cons _ h => exact h
        | cons_cons _ h => exact absurd rfl e
theorem comes_of {α : Type} [DecidableEq α] {xs ys : List α} (h : xs.Sublist ys) : comesB xs ys = true := (comes_iff xs ys).mpr h
theorem comes_rev {α : Type} [DecidableEq α] (xs ys : List α) : comesB xs.reverse ys.reverse = comesB xs ys := by
  have h : comesB xs.reverse ys.reverse = true ↔ comesB xs ys = true := by rw [comes_iff, comes_iff, List.reverse_sublist]
  cases h1 : comesB xs ys <;> cases h2 : comesB xs.reverse ys.reverse <;> simp_all
theorem comes_both {α : Type} [DecidableEq α] (xs ys : List α) : (comesB xs ys && comesB ys xs) = decide (xs = ys) := by
  by_cases e : xs = ys
  · subst e
    rw [comes_of (List.Sublist.refl _), decide_eq_true rfl]; rfl
  · rw [decide_eq_false e]
    cases h1 : comesB xs ys with
    | false => rfl
    | true =>
      cases h2 : comesB ys xs with
      | false => rfl
      | true => exact absurd (sub_anti ((comes_iff _ _).mp h1) ((comes_iff _ _).mp h2)) e
theorem comes_lt {α : Type} [DecidableEq α] {xs ys : List α} (h : ys.Sublist xs) : (comesB xs ys && !decide (xs = ys)) = false := by
  cases h1 : comesB xs ys with
  | false => rfl
  | true => rw [decide_eq_true (sub_anti ((comes_iff _ _).mp h1) h)]; rfl
theorem sub_at {α : Type} (xs : List α) : ∀ (js : List Nat) (k : Nat), js.Pairwise (· < ·) → (∀ j ∈ js, k ≤ j) → (js.filterMap (xs[·]?)).Sublist (xs.drop k)
  | [], k, _, _ => by simp
  | j :: js, k, hp, hk => by
    have hp := List.pairwise_cons.mp hp
    have ih := sub_at xs js (j + 1) hp.2 fun i hi => hp.1 i hi
    have hj := hk j List.mem_cons_self
    have e1 : (xs.drop j).Sublist (xs.drop k) := by
      rw [show j = k + (j - k) from by omega, ← List.drop_drop]
      exact List.drop_sublist _ _
    rw [List.filterMap_cons]
    cases h : xs[j]? with
    | none =>
      exact (ih.trans (by rw [← List.drop_drop]; exact List.drop_sublist _ _)).trans e1
    | some x =>
      have hd : xs.drop j = x :: xs.drop (j + 1) := by
        obtain ⟨h1, h2⟩ := List.getElem?_eq_some_iff.mp h
        rw [List.drop_eq_getElem_cons h1, h2]
      rw [hd] at e1
      exact (List.Sublist.cons_cons x ih).trans e1
theorem pick_sub {α : Type} (xs : List α) (l u t : Option Int) (h0 : 0 < stepOf t) (hl : 0 ≤ l.getD 0) : (pick xs l u t).Sublist xs := by
  unfold pick placesOf
  have hp : 0 ≤ (Builtin.Slice.sliceAdjust l u (stepOf t) (xs.length : Int)).1 := by
    unfold Builtin.Slice.sliceAdjust
    cases l with
    | none =>
      show 0 ≤ (if stepOf t < 0 then _ else _)
      rw [if_neg (show ¬ stepOf t < 0 by omega), if_neg (show ¬ stepOf t < 0 by omega)]
      exact Int.le_refl _
    | some a =>
      have ha : 0 ≤ a := hl
      show 0 ≤ (if a < 0 then max (a + (xs.length : Int)) (if stepOf t < 0 then -1 else 0) else min a (if stepOf t < 0 then (xs.length : Int) - 1 else (xs.length : Int)))
      rw [if_neg (show ¬ a < 0 by omega), if_neg (show ¬ stepOf t < 0 by omega)]
      omega
  generalize Builtin.Slice.sliceAdjust l u (stepOf t) (xs.length : Int) = p at hp
  have h := sub_at xs ((List.range (Builtin.Slice.slicePlaces p.1 p.2 (stepOf t))).map fun (m : Nat) => (p.1 + (m : Int) * stepOf t).toNat) 0 ?_ fun _ _ => Nat.zero_le _
  · exact h
  · rw [List.pairwise_map]
    refine List.pairwise_lt_range.imp fun {a b} hab => ?_
    have h1 : (a : Int) * stepOf t < (b : Int) * stepOf t := Int.mul_lt_mul_of_pos_right (by omega) h0
    have h2 : 0 ≤ (a : Int) * stepOf t := Int.mul_nonneg (by omega) (by omega)
    omega
theorem rep_sub {α : Type} (xs : List α) : (repE xs 2).Sublist (repE xs 3) := by
  show ([xs, xs].flatten).Sublist ([xs, xs, xs].flatten)
  simp only [List.flatten_cons, List.flatten_nil, List.append_nil]
  rw [← List.append_assoc]
  exact List.sublist_append_left _ _
end
section
variable {P : Program} {w : World} {K : PySem.W.Frag} {mg : Str → Option Value} {base : Heap}
open PDS
theorem evDs_len (es : List (Str × List Nat)) : (evDs es).length = es.length := by unfold evDs; rw [List.length_map]
theorem ifk {A B : Prop} {k : Bool} (h1 : k = true → A) (h2 : k = false → B) : if k = true then A else B := by
  split
  · exact h1 ‹_›
  · exact h2 (by simpa using ‹¬k = true›)
theorem sorted_len {ns' : List Int} {L : List Nat} (h1 : ns'.Pairwise (· < ·)) (h2 : ∀ k, k ∈ ns' ↔ k ∈ L.map fun n : Nat => (n : Int)) : ns'.length ≤ L.length := by
  have := nodup_le (h1.imp fun h => Int.ne_of_lt h) fun k hk => (h2 k).mp hk
  rwa [List.length_map] at this
theorem ep_s {Γ : Ct} {e : Expr} {δ : Dl} {μ : Mu} {Q : Option Int → Mu → Prop} (h : ed Γ e δ μ fun d μ' => ∃ o, PartD d o ∧ Q o μ') : ep Γ (some e) δ μ Q := h
theorem ep_n {Γ : Ct} {δ : Dl} {μ : Mu} {Q : Option Int → Mu → Prop} (h : Q none μ) : ep Γ none δ μ Q := h
section
abbrev N_law : List Str := ["_law_script", "_law_deal_here", "_law_turn", "_law_a", "_law_b", "_law_c", "_law_side", "_law_some", "_law_at"]
theorem sc_law : FnScope N_law ["_law_script"] (defScope slaw) := ⟨rfl, rfl, rfl, by decide +kernel, rfl, by decide +kernel, by decide +kernel⟩
theorem v_law_script : Nm N_law (defScope slaw) 0 "_law_script" := ⟨rfl, by decide +kernel, by decide +kernel, by decide +kernel⟩
theorem v_law_deal_here : Nm N_law (defScope slaw) 1 "_law_deal_here" := ⟨rfl, by decide +kernel, by decide +kernel, by decide +kernel⟩
theorem v_law_turn : Nm N_law (defScope slaw) 2 "_law_turn" := ⟨rfl, by decide +kernel, by decide +kernel, by decide +kernel⟩
theorem v_law_a : Nm N_law (defScope slaw) 3 "_law_a" := ⟨rfl, by decide +kernel, by decide +kernel, by decide +kernel⟩
theorem v_law_b : Nm N_law (defScope slaw) 4 "_law_b" := ⟨rfl, by decide +kernel, by decide +kernel, by decide +kernel⟩
theorem v_law_c : Nm N_law (defScope slaw) 5 "_law_c" := ⟨rfl, by decide +kernel, by decide +kernel, by decide +kernel⟩
theorem w_law_side : NmB N_law 6 "_law_side" := ⟨rfl, by decide +kernel, by decide +kernel⟩
theorem v_law_some : Nm N_law (defScope slaw) 7 "_law_some" := ⟨rfl, by decide +kernel, by decide +kernel, by decide +kernel⟩
theorem w_law_at : NmB N_law 8 "_law_at" := ⟨rfl, by decide +kernel, by decide +kernel⟩
theorem gl_law_History : (defScope slaw).names.lookup ("History" : Str) = some .globalImplicit := by decide +kernel
theorem gl_law_deal : (defScope slaw).names.lookup ("_law_deal" : Str) = some .globalImplicit := by decide +kernel
theorem gl_law_draw : (defScope slaw).names.lookup ("_law_draw" : Str) = some .globalImplicit := by decide +kernel
theorem gl_law_len : (defScope slaw).names.lookup ("len" : Str) = some .globalImplicit := by decide +kernel
theorem gl_law_list : (defScope slaw).names.lookup ("list" : Str) = some .globalImplicit := by decide +kernel
theorem gl_law_range : (defScope slaw).names.lookup ("range" : Str) = some .globalImplicit := by decide +kernel
theorem gl_law_set : (defScope slaw).names.lookup ("set" : Str) = some .globalImplicit := by decide +kernel
theorem gl_law_str : (defScope slaw).names.lookup ("str" : Str) = some .globalImplicit := by decide +kernel
-- _law_deal_here is a cell
theorem sl_law_turn : (defScope slaw).names.lookup ("_law_turn" : Str) = some .local := by decide +kernel
-- _law_a is a cell
-- _law_b is a cell
theorem sl_law_c : (defScope slaw).names.lookup ("_law_c" : Str) = some .local := by decide +kernel
theorem sl_law_some : (defScope slaw).names.lookup ("_law_some" : Str) = some .local := by decide +kernel
local macro_rules | `(tactic| walk_at "pd.nm") => `(tactic| first
  | ((with_reducible show ed _ (Expr.Name "_law_script" _) _ _ _); first | refine ed_nm v_law_script rfl ?_ | refine ed_nmB (sc := defScope slaw) v_law_script rfl ?_)
  | ((with_reducible show ed _ (Expr.Name "_law_deal_here" _) _ _ _); first | refine ed_nm v_law_deal_here rfl ?_ | refine ed_nmB (sc := defScope slaw) v_law_deal_here rfl ?_)
  | ((with_reducible show ed _ (Expr.Name "_law_turn" _) _ _ _); first | refine ed_nm v_law_turn rfl ?_ | refine ed_nmB (sc := defScope slaw) v_law_turn rfl ?_)
  | ((with_reducible show ed _ (Expr.Name "_law_a" _) _ _ _); first | refine ed_nm v_law_a rfl ?_ | refine ed_nmB (sc := defScope slaw) v_law_a rfl ?_)
  | ((with_reducible show ed _ (Expr.Name "_law_b" _) _ _ _); first | refine ed_nm v_law_b rfl ?_ | refine ed_nmB (sc := defScope slaw) v_law_b rfl ?_)
  | ((with_reducible show ed _ (Expr.Name "_law_c" _) _ _ _); first | refine ed_nm v_law_c rfl ?_ | refine ed_nmB (sc := defScope slaw) v_law_c rfl ?_)
  | ((with_reducible show ed _ (Expr.Name "_law_side" _) _ _ _); refine ed_nmC (sc := defScope slaw) w_law_side rfl ?_)
  | ((with_reducible show ed _ (Expr.Name "_law_some" _) _ _ _); first | refine ed_nm v_law_some rfl ?_ | refine ed_nmB (sc := defScope slaw) v_law_some rfl ?_)
  | ((with_reducible show ed _ (Expr.Name "_law_at" _) _ _ _); refine ed_nmC (sc := defScope slaw) w_law_at rfl ?_)
  | ((with_reducible show ed _ (Expr.Name "History" _) _ _ _); refine ed_gref (g_History (by assumption)) ?_ (hg := by first | exact gl_of gl_law_History | exact glB_of (sc := defScope slaw)))
  | ((with_reducible show ed _ (Expr.Name "list" _) _ _ _); refine ed_ty (n := "list") (b_list (by assumption)) bb_list ?_ (hg := by first | exact gl_of gl_law_list))
  | ((with_reducible show ed _ (Expr.Name "range" _) _ _ _); refine ed_ty (n := "range") (b_range (by assumption)) bb_range ?_ (hg := by first | exact gl_of gl_law_range | exact glB_of (sc := defScope slaw)))
  | ((with_reducible show ed _ (Expr.Name "set" _) _ _ _); refine ed_ty (n := "set") (b_set (by assumption)) bb_set ?_ (hg := by first | exact gl_of gl_law_set))
  | ((with_reducible show ed _ (Expr.Name "str" _) _ _ _); refine ed_ty (n := "str") (b_str (by assumption)) bb_str ?_ (hg := by first | exact gl_of gl_law_str))
  | fail)
local macro_rules | `(tactic| walk_at "pd.set") => `(tactic| first
  | ((with_reducible show sd _ (Stmt.Assign [Expr.Name "_law_turn" _] (Expr.ListComp _ _ _ _) _) _ _ _); refine sd_setLc (own := [("_law_side", 6)]) (i := 2) rfl sc_law.nd rfl (by exact sl_law_turn) (sw_true rfl (by exact sl_law_turn) rfl (by decide +kernel)) (blkOk_by (N := N_law) (sc := defScope slaw) (by decide +kernel)) ?_)
  | ((with_reducible show sd _ (Stmt.Assign [Expr.Name "_law_turn" _] (Expr.ListComp _ _ _ _) _) _ _ _); refine sd_setLc (own := [("_law_at", 8)]) (i := 2) rfl sc_law.nd rfl (by exact sl_law_turn) (sw_true rfl (by exact sl_law_turn) rfl (by decide +kernel)) (blkOk_by (N := N_law) (sc := defScope slaw) (by decide +kernel)) ?_)
  | ((with_reducible show sd _ (Stmt.Assign [Expr.Name "_law_c" _] (Expr.ListComp _ _ _ _) _) _ _ _); refine sd_setLc (own := [("_law_side", 6)]) (i := 5) rfl sc_law.nd rfl (by exact sl_law_c) (sw_true rfl (by exact sl_law_c) rfl (by decide +kernel)) (blkOk_by (N := N_law) (sc := defScope slaw) (by decide +kernel)) ?_)
  | ((with_reducible show sd _ (Stmt.Assign [Expr.Name "_law_c" _] (Expr.ListComp _ _ _ _) _) _ _ _); refine sd_setLc (own := [("_law_at", 8)]) (i := 5) rfl sc_law.nd rfl (by exact sl_law_c) (sw_true rfl (by exact sl_law_c) rfl (by decide +kernel)) (blkOk_by (N := N_law) (sc := defScope slaw) (by decide +kernel)) ?_)
  | ((with_reducible show sd _ (Stmt.Assign [Expr.Name "_law_some" _] (Expr.ListComp _ _ _ _) _) _ _ _); refine sd_setLc (own := [("_law_side", 6)]) (i := 7) rfl sc_law.nd rfl (by exact sl_law_some) (sw_true rfl (by exact sl_law_some) rfl (by decide +kernel)) (blkOk_by (N := N_law) (sc := defScope slaw) (by decide +kernel)) ?_)
  | ((with_reducible show sd _ (Stmt.Assign [Expr.Name "_law_some" _] (Expr.ListComp _ _ _ _) _) _ _ _); refine sd_setLc (own := [("_law_at", 8)]) (i := 7) rfl sc_law.nd rfl (by exact sl_law_some) (sw_true rfl (by exact sl_law_some) rfl (by decide +kernel)) (blkOk_by (N := N_law) (sc := defScope slaw) (by decide +kernel)) ?_)
  | ((with_reducible show sd _ (Stmt.Assign [Expr.Name "_law_deal_here" _] _ _) _ _ _); refine sd_nm v_law_deal_here sc_law.nd ?_)
  | ((with_reducible show sd _ (Stmt.Assign [Expr.Name "_law_turn" _] _ _) _ _ _); refine sd_nm v_law_turn sc_law.nd ?_)
  | ((with_reducible show sd _ (Stmt.Assign [Expr.Name "_law_a" _] _ _) _ _ _); refine sd_nm v_law_a sc_law.nd ?_)
  | ((with_reducible show sd _ (Stmt.Assign [Expr.Name "_law_b" _] _ _) _ _ _); refine sd_nm v_law_b sc_law.nd ?_)
  | ((with_reducible show sd _ (Stmt.Assign [Expr.Name "_law_c" _] _ _) _ _ _); refine sd_nm v_law_c sc_law.nd ?_)
  | ((with_reducible show sd _ (Stmt.Assign [Expr.Name "_law_some" _] _ _) _ _ _); refine sd_nm v_law_some sc_law.nd ?_)
  | fail)
local macro_rules | `(tactic| walk_at "pd.g") => `(tactic| first
  | ((with_reducible show gd _ (Expr.Name "_law_deal_here" _) _ _ _ _); refine gd_nm v_law_deal_here sc_law.nd ?_)
  | ((with_reducible show gd _ (Expr.Name "_law_turn" _) _ _ _ _); refine gd_nm v_law_turn sc_law.nd ?_)
  | ((with_reducible show gd _ (Expr.Name "_law_a" _) _ _ _ _); refine gd_nm v_law_a sc_law.nd ?_)
  | ((with_reducible show gd _ (Expr.Name "_law_b" _) _ _ _ _); refine gd_nm v_law_b sc_law.nd ?_)
  | ((with_reducible show gd _ (Expr.Name "_law_c" _) _ _ _ _); refine gd_nm v_law_c sc_law.nd ?_)
  | ((with_reducible show gv _ (Expr.Name "_law_side" _) _ _ _ _ _); refine gv_nmC (sc := defScope slaw) w_law_side sc_law.nd (by decide) ?_)
  | ((with_reducible show gd _ (Expr.Name "_law_some" _) _ _ _ _); refine gd_nm v_law_some sc_law.nd ?_)
  | ((with_reducible show gv _ (Expr.Name "_law_at" _) _ _ _ _ _); refine gv_nmC (sc := defScope slaw) w_law_at sc_law.nd (by decide) ?_)
  | fail)
local macro_rules | `(tactic| walk_at "pd.call") => `(tactic| first
  | ((with_reducible show ed _ (Expr.Call (Expr.Attribute (Expr.Name "History" _) "read" _) (_ :: _) _ _) _ _ _); refine ed_cmC (cm_History_read (by assumption)) ((ok_History_read (by assumption)).at_ _) (by assumption) (by decide) ?_)
  | ((with_reducible show ed _ (Expr.Call (Expr.Name "_law_deal" _) (_ :: _) _ _) _ _ _); refine ed_callC ((ok_deal (by assumption)).at_ _) (by assumption) (by decide) (g_deal (by assumption)) ?_ (hg := by first | exact gl_of gl_law_deal))
  | ((with_reducible show ed _ (Expr.Call (Expr.Name "History" _) [_] _ _) _ _ _); refine ed_makeC (mk_History_1 (by assumption)) (by assumption) (by decide) (g_History (by assumption)) ?_ (hg := by first | exact gl_of gl_law_History | exact glB_of (sc := defScope slaw)))
  | ((with_reducible show ed _ (Expr.Call (Expr.Name "set" _) (_ :: _) _ _) _ _ _); refine ed_callTy (T := "set") (b_set (by assumption)) bb_set ?_ (hg := by first | exact gl_of gl_law_set))
  | ((with_reducible show ed _ (Expr.Call (Expr.Name "_law_events" _) (_ :: _) _ _) _ _ _); refine ed_callC ((ok_events (by assumption)).at_ _) (by assumption) (by decide) (g_events (by assumption)) ?_ (hg := by first | exact glB_of (sc := defScope slaw)))
  | ((with_reducible show ed _ (Expr.Call (Expr.Name "len" _) (_ :: _) _ _) _ _ _); refine ed_callB (id := "len") (b_len (by assumption)) bb_len ?_ (hg := by first | exact gl_of gl_law_len | exact glB_of (sc := defScope slaw)))
  | ((with_reducible show ed _ (Expr.Call (Expr.Name "_law_draw" _) (_ :: _) _ _) _ _ _); refine ed_callC ((ok_draw (by assumption)).at_ _) (by assumption) (by decide) (g_draw (by assumption)) ?_ (hg := by first | exact gl_of gl_law_draw))
  | ((with_reducible show ed _ (Expr.Call (Expr.Name "list" _) (_ :: _) _ _) _ _ _); refine ed_callTy (T := "list") (b_list (by assumption)) bb_list ?_ (hg := by first | exact gl_of gl_law_list))
  | ((with_reducible show ed _ (Expr.Call (Expr.Name "History" _) [] _ _) _ _ _); refine ed_makeC0 (mk_History_0 (by assumption)) (by assumption) (by decide) (g_History (by assumption)) ?_ (hg := by first | exact gl_of gl_law_History | exact glB_of (sc := defScope slaw)))
  | ((with_reducible show ed _ (Expr.Call (Expr.Name "str" _) (_ :: _) _ _) _ _ _); refine ed_callTy (T := "str") (b_str (by assumption)) bb_str ?_ (hg := by first | exact gl_of gl_law_str))
  | fail)
local macro_rules | `(tactic| walk_at "pd.lc") => `(tactic| first
  | ((with_reducible show ed _ (Expr.ListComp _ [_] _ _) _ _ _); refine ed_lc (own := [("_law_side", 6)]) [("_law_side", 6)] rfl rfl sc_law.nd (blkOk_by (N := N_law) (sc := defScope slaw) (by decide +kernel)) ?_)
  | ((with_reducible show ed _ (Expr.ListComp _ [_] _ _) _ _ _); refine ed_lc (own := [("_law_at", 8)]) [("_law_at", 8)] rfl rfl sc_law.nd (blkOk_by (N := N_law) (sc := defScope slaw) (by decide +kernel)) ?_)
  | fail)
local macro_rules | `(tactic| walk_at "pd.it") => `(tactic| first
  | ((with_reducible show eid _ _ (Expr.Call (Expr.Name "range" _) [_] _ _) _ _ _); refine eid_range (b_range (by assumption)) ?_ (hg := by first | exact gl_of gl_law_range | exact glB_of (sc := defScope slaw)))
  | ((with_reducible show eid _ _ (Expr.Call (Expr.Name "range" _) [_, _] _ _) _ _ _); refine eid_range2 (b_range (by assumption)) ?_ (hg := by first | exact gl_of gl_law_range | exact glB_of (sc := defScope slaw)))
  | ((with_reducible show eid _ _ _ _ _ _); refine eid_of ?_)
  | fail)
local macro_rules | `(tactic| walk_at "pd.fld") => `(tactic| first
  | ((with_reducible show ed _ (Expr.Attribute _ "records" _) _ _ _); refine ed_propC (c_History (by assumption)) (pr_History_records (by assumption)) (ok_History_records (by assumption)) (by assumption) (by decide) ?_)
  | ((with_reducible show ed _ (Expr.Attribute _ "references" _) _ _ _); refine ed_propC (c_History (by assumption)) (pr_History_references (by assumption)) (ok_History_references (by assumption)) (by assumption) (by decide) ?_)
  | fail)
theorem ok_law (T : T0 w K mg) {fd : FuncData} (F : FunD K "law" "law" (defArgs slaw) (defBody slaw) (defScope slaw) (dlaw.dvs K) (dlaw.kws K) (He.fAd K dlaw.at_) fd) : FnD false P w K mg base 8 (He.ga K "law") fd ["_law_script"] spLaw := by
  refine fnD_of F sc_law fun cdv A outer s H F0 μ ds Qd Ed hr hl h => ?_
  obtain ⟨ns, rfl, rfl, hn, -, q⟩ := h
  have hu := hr.units
  have hu1 := Nat.lt_of_le_of_lt (Nat.add_le_add_left (show 1 ≤ 64 by decide) _) hr.units
  have hu0 := Nat.lt_of_le_of_lt (Nat.le_add_right _ 64) hr.units
  show sds _ _ (some (.rl (ns.map .int)) :: List.replicate 8 none) _ _
  refine sds_cons ?_
  walk_at "pd"
  refine ⟨ns, 0, rfl, by decide, by decide, hn, fun p q' μ1 hD => ?_⟩
  walk_at "pdS"
  show sds _ _ _ _ _
  refine sds_cut (fun δ' μ' => ∃ x2 x3 x4 x5 x6 x7 x8 : Option D, δ' = [some (.rl (ns.map .int)), some (.ref p), x2, x3, x4, x5, x6, x7, x8] ∧ Deal p q' [] μ') ?_ ?_
  · refine sd_for rfl ?_
    walk_at "pd"
    refine ⟨3, rfl, by decide, by decide, fun i δ' μ' => ∃ x2 x3 x4 x5 x6 x7 x8 : Option D, δ' = [some (.rl (ns.map .int)), some (.ref p), x2, x3, x4, x5, x6, x7, x8] ∧ Deal p q' [] μ',
      ⟨_, _, _, _, _, _, _, rfl, hD⟩, fun _ _ _ _ _ => trivial, ?_, fun δ' μ' h => h⟩
    rintro i d δ' μ' hd ⟨x2, x3, x4, x5, x6, x7, x8, rfl, hD⟩
    walk_at "pdS"
    refine sds_cons ?_
    walk_at "pdS"
    refine lcd_allN (fun μ' => Deal p q' [] μ') (fun d => ∃ es : List (Str × List Nat), d = histD (He.ga K "History") (evDs es) ∧ (∀ e ∈ es, EvB e 1000) ∧ es.length ≤ 8) ?_
    walk_at "pd"
    refine ⟨3, rfl, by decide, by decide, by decide, hD, fun _ _ => trivial, ?_, ?_⟩
    · rintro d1 hd1 μ2 hD2
      walk_at "pd"
      refine ⟨rfl, ?_⟩
      walk_at "pd"
      refine ⟨p, q', _, _, _, _, rfl, hD2, by decide, by decide, by decide, by decide, by decide, by decide, fun es μ3 hes hel hD3 => ?_⟩
      walk_at "pd"
      exact hist_of ⟨fun e h => (hes e h).1.evN (by decide), by omega⟩ (.lst _) ⟨⟨es, rfl, fun e h => (hes e h).1, by omega⟩, hD3⟩
    rintro acc μ2 hac hlc hD2
    obtain ⟨da, db, dc, rfl⟩ : ∃ da db dc, acc = [da, db, dc] := by
      rw [List.length_map, List.length_range] at hlc
      match acc, hlc with
      | [da, db, dc], _ => exact ⟨da, db, dc, rfl⟩
    obtain ⟨a, rfl, ha, hal⟩ := hac da (by simp)
    obtain ⟨b, rfl, hb, hbl⟩ := hac db (by simp)
    obtain ⟨c, rfl, hc, hcl⟩ := hac dc (by simp)
    clear hac hlc
    have En : ∀ {es : List (Str × List Nat)}, (∀ e ∈ es, e ∈ a ∨ e ∈ b ∨ e ∈ c) → es.length ≤ 100 → EvsN es := fun {es} h hl => ⟨fun e he => (h e he).elim (fun z => (ha e z).evN (by decide)) fun z => z.elim (fun z => (hb e z).evN (by decide)) fun z => (hc e z).evN (by decide), hl⟩
    have Ea : EvsN a := En (fun e h => .inl h) (by omega)
    have Eb : EvsN b := En (fun e h => .inr (.inl h)) (by omega)
    have Ec : EvsN c := En (fun e h => .inr (.inr h)) (by omega)
    have Eap : ∀ {x y : List (Str × List Nat)}, EvsN x → EvsN y → x.length + y.length ≤ 100 → EvsN (x ++ y) := fun {x y} h1 h2 h3 => ⟨fun e he => (List.mem_append.mp he).elim (h1.e e) (h2.e e), by rw [List.length_append]; exact h3⟩
    have Eab : EvsN (a ++ b) := Eap Ea Eb (by omega)
    have lab : (a ++ b).length = a.length + b.length := List.length_append
    have Ebc : EvsN (b ++ c) := Eap Eb Ec (by omega)
    have lbc : (b ++ c).length = b.length + c.length := List.length_append
    have Eac : EvsN (a ++ c) := Eap Ea Ec (by omega)
    have lac : (a ++ c).length = a.length + c.length := List.length_append
    have Eabc : EvsN (a ++ b ++ c) := Eap Eab Ec (by omega)
    have labc : (a ++ b ++ c).length = a.length + b.length + c.length := by rw [List.length_append, lab]
    have Ea_bc : EvsN (a ++ (b ++ c)) := Eap Ea Ebc (by omega)
    have l1 : ∀ xs : List (Str × List Nat), (evDs xs).length = xs.length := evDs_len
    refine gd_lst rfl ⟨rfl, ?_⟩
    walk_at "pdS"
    refine sds_cons ?_
    refine sd_if (et_mono (Q := fun k μ' => k = false ∧ μ' = μ2) ?_ ?_)
    · walk_at "pd"
      refine opd_ownOwn (add_History T) rfl rfl (ok_History_add T) hr (by decide) ⟨_, _, rfl, by assumption, ?_⟩
      walk_at "pdX"
      refine opd_ownOwn (add_History T) rfl rfl (ok_History_add T) hr (by decide) ⟨_, _, rfl, by assumption, ?_⟩
      walk_at "pdX"
      refine opd_ownOwn (add_History T) rfl rfl (ok_History_add T) hr (by decide) ⟨_, _, rfl, by assumption, ?_⟩
      walk_at "pdX"
      refine opd_ownOwn (add_History T) rfl rfl (ok_History_add T) hr (by decide) ⟨_, _, rfl, by assumption, ?_⟩
      walk_at "pdX"
      refine opd_neOwn (ne_History T) rfl (.obj (ct_History T) _ _) nf_same (ok_History_eq T) hr (by decide) ⟨_, _, rfl, by assumption, Or.inl ⟨_, rfl, by assumption, _, rfl, ?_⟩⟩
      refine ⟨_, rfl, iteFr (by rw [List.append_assoc]; simp) ?_⟩
      walk_at "pdX"
      refine opd_ownOwn (add_History T) rfl rfl (ok_History_add T) hr (by decide) ⟨_, _, rfl, by assumption, ?_⟩
      walk_at "pdX"
      refine opd_ownOwn (add_History T) rfl rfl (ok_History_add T) hr (by decide) ⟨_, _, rfl, by assumption, ?_⟩
      walk_at "pdX"
      refine cld_lenOwn (m_History_len T) rfl (ok_History_len T) hr (by decide) ⟨_, rfl, _, rfl, by rw [l1]; omega, ?_⟩
      walk_at "pdX"
      refine cld_lenOwn (m_History_len T) rfl (ok_History_len T) hr (by decide) ⟨_, rfl, _, rfl, by rw [l1]; omega, ?_⟩
      walk_at "pdX"
      refine cld_lenOwn (m_History_len T) rfl (ok_History_len T) hr (by decide) ⟨_, rfl, _, rfl, by rw [l1]; omega, ?_⟩
      walk_at "pdX"
      refine cld_lenOwn (m_History_len T) rfl (ok_History_len T) hr (by decide) ⟨_, rfl, _, rfl, by rw [l1]; omega, ?_⟩
      walk_at "pdX"
      rw [l1, l1, l1, l1, labc]
      exact ⟨by simp, rfl⟩
    rintro kk μ3 ⟨rfl, rfl⟩
    refine ifk (fun hk => nomatch hk) (fun _ => ?_)
    refine sds_nil ?_
    refine sds_cons ?_
    refine sd_if (et_mono (Q := fun k μ' => k = false ∧ μ' = μ3) ?_ ?_)
    · walk_at "pd"
      refine opd_ownOwn (add_History T) rfl rfl (ok_History_add T) hr (by decide) ⟨_, _, rfl, by assumption, ?_⟩
      walk_at "pdX"
      refine opd_leM (m_History_le T) rfl (.obj (ct_History T) _ _) nf_same (ok_History_le T) hr (by decide) hu0 ⟨_, _, rfl, by assumption, by assumption, ?_⟩
      rw [comes_of (List.sublist_append_left _ _)]
      refine ⟨_, rfl, iteFr rfl ?_⟩
      walk_at "pdX"
      refine opd_ownOwn (add_History T) rfl rfl (ok_History_add T) hr (by decide) ⟨_, _, rfl, by assumption, ?_⟩
      walk_at "pdX"
      refine opd_leM (m_History_le T) rfl (.obj (ct_History T) _ _) nf_same (ok_History_le T) hr (by decide) hu0 ⟨_, _, rfl, by assumption, by assumption, ?_⟩
      rw [comes_of (List.sublist_append_right _ _)]
      refine ⟨_, rfl, iteFr rfl ?_⟩
      walk_at "pdX"
      refine opd_ownOwn (add_History T) rfl rfl (ok_History_add T) hr (by decide) ⟨_, _, rfl, by assumption, ?_⟩
      walk_at "pdX"
      refine opd_ownOwn (add_History T) rfl rfl (ok_History_add T) hr (by decide) ⟨_, _, rfl, by assumption, ?_⟩
      walk_at "pdX"
      refine opd_ownOwn (add_History T) rfl rfl (ok_History_add T) hr (by decide) ⟨_, _, rfl, by assumption, ?_⟩
      walk_at "pdX"
      refine opd_leM (m_History_le T) rfl (.obj (ct_History T) _ _) nf_same (ok_History_le T) hr (by decide) hu0 ⟨_, _, rfl, by assumption, by assumption, ?_⟩
      rw [comes_of (List.Sublist.append (List.sublist_append_left _ _) (List.Sublist.refl _))]
      refine ⟨_, rfl, iteFr rfl ?_⟩
      walk_at "pdX"
      refine opd_ownOwn (add_History T) rfl rfl (ok_History_add T) hr (by decide) ⟨_, _, rfl, by assumption, ?_⟩
      walk_at "pdX"
      refine opd_ownOwn (add_History T) rfl rfl (ok_History_add T) hr (by decide) ⟨_, _, rfl, by assumption, ?_⟩
      walk_at "pdX"
      refine opd_ownOwn (add_History T) rfl rfl (ok_History_add T) hr (by decide) ⟨_, _, rfl, by assumption, ?_⟩
      walk_at "pdX"
      refine opd_leM (m_History_le T) rfl (.obj (ct_History T) _ _) nf_same (ok_History_le T) hr (by decide) hu0 ⟨_, _, rfl, by assumption, by assumption, ?_⟩
      rw [comes_of (List.Sublist.append (List.sublist_append_left _ _) (List.Sublist.refl _))]
      exact ⟨_, rfl, rfl, rfl⟩
    rintro kk μ4 ⟨rfl, rfl⟩
    refine ifk (fun hk => nomatch hk) (fun _ => ?_)
    refine sds_nil ?_
    refine sds_cons ?_
    walk_at "pdX"
    refine ed_ixOwnX (m_History_getitem T) (fnIn_of (f_History_getitem T).choose_spec) ((ok_History_getitem T).at_ _) hr (by decide) ?_
    walk_at "pdX"
    refine opd_ownOwn (add_History T) rfl rfl (ok_History_add T) hr (by decide) ⟨_, _, rfl, by assumption, ?_⟩
    walk_at "pdX"
    refine opd_ownOwn (add_History T) rfl rfl (ok_History_add T) hr (by decide) ⟨_, _, rfl, by assumption, ?_⟩
    walk_at "pdX"
    refine ed_slc3 ?_
    refine ep_s ?_
    walk_at "pd"
    refine ⟨p, q', [], _, rfl, hD2, by decide, by decide, fun r1 μ5 r10 r11 hD5 => ?_⟩
    walk_at "pd"
    refine ⟨_, .inr ⟨_, rfl, rfl⟩, ?_⟩
    refine ep_n ?_
    refine ep_s ?_
    walk_at "pd"
    refine ⟨p, q', [], _, rfl, hD5, by decide, by decide, fun r2 μ6 r20 r21 hD6 => ?_⟩
    walk_at "pd"
    refine ⟨_, .inr ⟨_, rfl, rfl⟩, ?_⟩
    have hs0 : 0 < stepOf (some (1 + r2)) := by show 0 < 1 + r2; omega
    have hs1 : stepOf (some (1 + r2)) ≠ 0 := by omega
    refine ⟨rfl, .inl ⟨_, _, _, _, rfl, Eabc, hs1, ?_⟩⟩
    obtain ⟨sm, hsm⟩ : ∃ sm, sm = pick (a ++ b ++ c) (some r1) none (some (1 + r2)) := ⟨_, rfl⟩
    have Esm : EvsN sm := by rw [hsm]; exact Eabc.pick hs1
    have hsub : sm.Sublist (a ++ b ++ c) := by rw [hsm]; exact pick_sub _ _ _ _ hs0 r10
    rw [← hsm]
    clear hsm
    walk_at "pdS"
    show sds _ _ _ _ _
    refine sds_cons ?_
    refine sd_if (et_mono (Q := fun k μ' => k = false ∧ μ' = μ6) ?_ ?_)
    · walk_at "pdX"
      refine opd_ownOwn (add_History T) rfl rfl (ok_History_add T) hr (by decide) ⟨_, _, rfl, by assumption, ?_⟩
      walk_at "pdX"
      refine opd_ownOwn (add_History T) rfl rfl (ok_History_add T) hr (by decide) ⟨_, _, rfl, by assumption, ?_⟩
      walk_at "pdX"
      refine opd_leM (m_History_le T) rfl (.obj (ct_History T) _ _) nf_same (ok_History_le T) hr (by decide) hu0 ⟨_, _, rfl, by assumption, by assumption, ?_⟩
      rw [comes_of hsub]
      refine ⟨_, rfl, iteFr rfl ?_⟩
      walk_at "pdX"
      refine opd_ownOwn (add_History T) rfl rfl (ok_History_add T) hr (by decide) ⟨_, _, rfl, by assumption, ?_⟩
      walk_at "pdX"
      refine opd_ownOwn (add_History T) rfl rfl (ok_History_add T) hr (by decide) ⟨_, _, rfl, by assumption, ?_⟩
      walk_at "pdX"
      refine opd_ltM (m_History_lt T) rfl (.obj (ct_History T) _ _) nf_same (ok_History_lt T) hr (by decide) hu0 ⟨_, _, rfl, by assumption, by assumption, ?_⟩
      rw [comes_lt hsub]
      refine ⟨_, rfl, iteFr rfl ?_⟩
      walk_at "pdX"
      refine ed_ixOwnX (m_History_getitem T) (fnIn_of (f_History_getitem T).choose_spec) ((ok_History_getitem T).at_ _) hr (by decide) ?_
      walk_at "pd"
      refine ed_slc3 ?_
      refine ep_n ?_
      refine ep_n ?_
      refine ep_s ?_
      walk_at "pd"
      refine ⟨_, .inr ⟨_, rfl, rfl⟩, ?_⟩
      refine ⟨rfl, .inl ⟨_, _, _, _, rfl, Esm, by decide, ?_⟩⟩
      have Ep : EvsN (pick sm none none (some 2)) := Esm.pick (by decide)
      walk_at "pdX"
      refine opd_leM (m_History_le T) rfl (.obj (ct_History T) _ _) nf_same (ok_History_le T) hr (by decide) hu0 ⟨_, _, rfl, by assumption, by assumption, ?_⟩
      rw [comes_of (pick_sub _ _ _ _ (by decide) (by decide))]
      exact ⟨_, rfl, rfl, rfl⟩
    rintro kk μ7 ⟨rfl, rfl⟩
    refine ifk (fun hk => nomatch hk) (fun _ => ?_)
    refine sds_nil ?_
    refine sds_cons ?_
    refine sd_if (et_mono (Q := fun k μ' => k = false ∧ μ' = μ7) ?_ ?_)
    · walk_at "pdX"
      refine ⟨rfl, ?_⟩
      walk_at "pdX"
      refine opd_ownOwn (add_History T) rfl rfl (ok_History_add T) hr (by decide) ⟨_, _, rfl, by assumption, ?_⟩
      walk_at "pdX"
      refine cld_strOwn (strOwn_of (m_History_str T)) rfl (ok_History_str T) hr (by decide) ⟨_, rfl, Eab, _, rfl, ?_⟩
      walk_at "pdX"
      refine hread_of Eab ?_
      walk_at "pdX"
      refine opd_ownOwn (add_History T) rfl rfl (ok_History_add T) hr (by decide) ⟨_, _, rfl, by assumption, ?_⟩
      walk_at "pdX"
      refine opd_neOwn (ne_History T) rfl (.obj (ct_History T) _ _) nf_same (ok_History_eq T) hr (by decide) ⟨_, _, rfl, by assumption, Or.inl ⟨_, rfl, by assumption, _, rfl, ?_⟩⟩
      refine ⟨_, rfl, iteFr (by simp) ?_⟩
      walk_at "pdX"
      refine ⟨rfl, ?_⟩
      walk_at "pdX"
      refine cld_strOwn (strOwn_of (m_History_str T)) rfl (ok_History_str T) hr (by decide) ⟨_, rfl, Esm, _, rfl, ?_⟩
      walk_at "pdX"
      refine hread_of Esm ?_
      walk_at "pdX"
      refine opd_neOwn (ne_History T) rfl (.obj (ct_History T) _ _) nf_same (ok_History_eq T) hr (by decide) ⟨_, _, rfl, by assumption, Or.inl ⟨_, rfl, by assumption, _, rfl, ?_⟩⟩
      exact ⟨_, rfl, by simp, rfl⟩
    rintro kk μ8 ⟨rfl, rfl⟩
    refine ifk (fun hk => nomatch hk) (fun _ => ?_)
    refine sds_nil ?_
    refine sds_cons ?_
    refine sd_if (et_mono (Q := fun k μ' => k = false ∧ μ' = μ8) ?_ ?_)
    · refine et_neSets rfl hu0 (b_set T) ?_ (hg := by exact gl_of gl_law_set)
      walk_at "pdX"
      refine opd_ownOwn (add_History T) rfl rfl (ok_History_add T) hr (by decide) ⟨_, _, rfl, by assumption, ?_⟩
      walk_at "pdX"
      refine ⟨rfl, _, rfl, Eab, by omega, fun ns1 s1 m1 => ?_⟩
      walk_at "pdX"
      have z1 := sorted_len s1 m1
      have z0 := allRecs_len Eab.e
      refine ⟨ns1, rfl, by omega, ?_⟩
      walk_at "pdX"
      refine ⟨rfl, _, rfl, Ea, by omega, fun ns2 s2 m2 => ?_⟩
      walk_at "pdX"
      refine ⟨rfl, _, rfl, Eb, by omega, fun ns3 s3 m3 => ?_⟩
      have z2 := sorted_len s2 m2
      have z20 := allRecs_len Ea.e
      have z3 := sorted_len s3 m3
      have z30 := allRecs_len Eb.e
      walk_at "pdX"
      refine ⟨ns2 ++ ns3, by rw [List.map_append], by rw [List.length_append]; omega, fun k => ?_, rfl, rfl⟩
      rw [m1, List.mem_append, m2, m3, show allRecs (a ++ b) = allRecs a ++ allRecs b from List.flatMap_append, List.map_append, List.mem_append]
    rintro kk μ9 ⟨rfl, rfl⟩
    refine ifk (fun hk => nomatch hk) (fun _ => ?_)
    refine sds_nil ?_
    refine sds_cons ?_
    refine sd_if (et_mono (Q := fun k μ' => k = false ∧ μ' = μ9) ?_ ?_)
    · refine et_neSets rfl hu0 (b_set T) ?_ (hg := by exact gl_of gl_law_set)
      walk_at "pdX"
      refine opd_ownOwn (add_History T) rfl rfl (ok_History_add T) hr (by decide) ⟨_, _, rfl, by assumption, ?_⟩
      walk_at "pdX"
      refine ⟨rfl, _, rfl, Eab, by omega, fun ns1 s1 m1 => ?_⟩
      walk_at "pdX"
      have z1 := sorted_len s1 m1
      have z0 := allRefs_len (a ++ b)
      refine ⟨ns1, rfl, by omega, ?_⟩
      walk_at "pdX"
      refine ⟨rfl, _, rfl, Ea, by omega, fun ns2 s2 m2 => ?_⟩
      walk_at "pdX"
      refine ⟨rfl, _, rfl, Eb, by omega, fun ns3 s3 m3 => ?_⟩
      have z2 := sorted_len s2 m2
      have z20 := allRefs_len a
      have z3 := sorted_len s3 m3
      have z30 := allRefs_len b
      walk_at "pdX"
      refine ⟨ns2 ++ ns3, by rw [List.map_append], by rw [List.length_append]; omega, fun k => ?_, rfl, rfl⟩
      rw [m1, List.mem_append, m2, m3, show allRefs (a ++ b) = allRefs a ++ allRefs b from List.filterMap_append, List.map_append, List.mem_append]
    rintro kk μ10 ⟨rfl, rfl⟩
    refine ifk (fun hk => nomatch hk) (fun _ => ?_)
    refine sds_nil ?_
    refine sds_cons ?_
    refine sd_if (et_mono (Q := fun k μ' => k = false ∧ μ' = μ10) ?_ ?_)
    · walk_at "pdX"
      refine opd_leM (m_History_le T) rfl (.obj (ct_History T) _ _) nf_same (ok_History_le T) hr (by decide) hu0 ⟨_, _, rfl, by assumption, by assumption, ?_⟩
      walk_at "pdX"
      refine ed_ixOwnX (m_History_getitem T) (fnIn_of (f_History_getitem T).choose_spec) ((ok_History_getitem T).at_ _) hr (by decide) ?_
      walk_at "pd"
      refine ed_slc3 ?_
      refine ep_n ?_
      refine ep_n ?_
      refine ep_s ?_
      walk_at "pd"
      refine ⟨_, .inr ⟨_, rfl, rfl⟩, ?_⟩
      refine ⟨rfl, .inl ⟨_, _, _, _, rfl, Ea, by decide, ?_⟩⟩
      walk_at "pdX"
      refine ed_ixOwnX (m_History_getitem T) (fnIn_of (f_History_getitem T).choose_spec) ((ok_History_getitem T).at_ _) hr (by decide) ?_
      walk_at "pd"
      refine ed_slc3 ?_
      refine ep_n ?_
      refine ep_n ?_
      refine ep_s ?_
      walk_at "pd"
      refine ⟨_, .inr ⟨_, rfl, rfl⟩, ?_⟩
      refine ⟨rfl, .inl ⟨_, _, _, _, rfl, Eb, by decide, ?_⟩⟩
      rw [pick_rev, pick_rev]
      have Ear : EvsN a.reverse := ⟨fun e he => Ea.e e (List.mem_reverse.mp he), by rw [List.length_reverse]; omega⟩
      have Ebr : EvsN b.reverse := ⟨fun e he => Eb.e e (List.mem_reverse.mp he), by rw [List.length_reverse]; omega⟩
      refine opd_leM (m_History_le T) rfl (.obj (ct_History T) _ _) nf_same (ok_History_le T) hr (by decide) hu0 ⟨_, _, rfl, by assumption, by assumption, ?_⟩
      rw [comes_rev]
      refine opd_neB hu ?_
      refine ⟨_, rfl, iteFr (by simp) ?_⟩
      walk_at "pdX"
      refine opd_ltM (m_History_lt T) rfl (.obj (ct_History T) _ _) nf_same (ok_History_lt T) hr (by decide) hu0 ⟨_, _, rfl, by assumption, by assumption, ?_⟩
      walk_at "pdX"
      refine opd_gtM (m_History_gt T) rfl (.obj (ct_History T) _ _) nf_same (ok_History_gt T) hr (by decide) hu0 ⟨_, _, rfl, by assumption, by assumption, ?_⟩
      refine opd_neB hu ?_
      refine ⟨_, rfl, iteFr (by simp) ?_⟩
      walk_at "pdX"
      have hb := comes_both a b
      refine opd_leM (m_History_le T) rfl (.obj (ct_History T) _ _) nf_same (ok_History_le T) hr (by decide) hu0 ⟨_, _, rfl, by assumption, by assumption, ?_⟩
      refine ⟨_, rfl, ?_⟩
      cases h1 : comesB a b with
      | false =>
        rw [h1] at hb
        refine iteFr rfl ?_
        walk_at "pdX"
        refine opd_eqOwn (eqOwn_of (m_History_eq T)) rfl (.obj (ct_History T) _ _) nf_same (ok_History_eq T) hr (by decide) hu0 ⟨_, _, rfl, Ea, Or.inl ⟨_, rfl, Eb, _, rfl, ?_⟩⟩
        refine opd_neB hu ?_
        rw [← hb]
        exact ⟨_, rfl, rfl, rfl⟩
      | true =>
        rw [h1, Bool.true_and] at hb
        refine iteTr rfl ?_
        walk_at "pdX"
        refine opd_leM (m_History_le T) rfl (.obj (ct_History T) _ _) nf_same (ok_History_le T) hr (by decide) hu0 ⟨_, _, rfl, by assumption, by assumption, ?_⟩
        walk_at "pdX"
        refine opd_eqOwn (eqOwn_of (m_History_eq T)) rfl (.obj (ct_History T) _ _) nf_same (ok_History_eq T) hr (by decide) hu0 ⟨_, _, rfl, Ea, Or.inl ⟨_, rfl, Eb, _, rfl, ?_⟩⟩
        refine opd_neB hu ?_
        rw [hb]
        exact ⟨_, rfl, by simp, rfl⟩
    rintro kk μ11 ⟨rfl, rfl⟩
    refine ifk (fun hk => nomatch hk) (fun _ => ?_)
    refine sds_nil ?_
    refine sds_cons ?_
    refine sd_if (et_mono (Q := fun k μ' => k = false ∧ μ' = μ11) ?_ ?_)
    · walk_at "pdX"
      refine lcd_all (fun μ' => μ' = μ11) (fun _ => False) ?_
      walk_at "pdX"
      refine cld_lenOwn (m_History_len T) rfl (ok_History_len T) hr (by decide) ⟨_, rfl, _, rfl, by rw [l1]; omega, ?_⟩
      walk_at "pdX"
      have la := l1 a
      refine ⟨((evDs a).length : Int), rfl, by omega, by omega, by rw [List.length_map, List.length_range, l1]; omega, rfl, fun _ _ => trivial, ?_, ?_⟩
      · rintro d1 hd1 μ' rfl
        obtain ⟨j, hj, rfl⟩ := List.mem_map.mp hd1
        rw [List.mem_range, l1] at hj
        have hj2 : j < a.length := by omega
        have hj3 : a[j]? = some a[j] := List.getElem?_eq_getElem hj2
        have hj4 : (a ++ b)[j]? = some a[j] := by rw [List.getElem?_append_left hj2]; exact hj3
        rw [show (0 : Int) + (j : Int) = (j : Int) from by omega]
        walk_at "pdX"
        refine ed_ixOwn (m_History_getitem T) (fnIn_of (f_History_getitem T).choose_spec) (ok_History_getitem T) (by assumption) (by decide) ?_
        walk_at "pdX"
        refine opd_ownOwn (add_History T) rfl rfl (ok_History_add T) hr (by decide) ⟨_, _, rfl, by assumption, ?_⟩
        walk_at "pdX"
        refine ⟨rfl, .inr ⟨_, _, _, rfl, by rw [lab]; omega, by omega, hj4, ?_⟩⟩
        walk_at "pdX"
        refine ed_ixOwn (m_History_getitem T) (fnIn_of (f_History_getitem T).choose_spec) (ok_History_getitem T) (by assumption) (by decide) ?_
        walk_at "pdX"
        refine ⟨rfl, .inr ⟨_, _, _, rfl, by omega, by omega, hj3, ?_⟩⟩
        have G := Ea.e _ (List.mem_of_getElem? hj3)
        walk_at "pdX"
        refine opd_neD hu (ok_ev G) (ok_ev G) (Nat.le_trans (depth_ev _) (by decide)) (Nat.le_trans (depth_ev _) (by decide)) ?_
        rw [eqD_ev, decide_eq_true rfl]
        refine ⟨_, rfl, iteFr rfl ?_⟩
        exact rfl
      · rintro acc μ' hac hlc rfl
        obtain rfl : acc = [] := List.eq_nil_iff_forall_not_mem.mpr fun x hx => hac x hx
        walk_at "pdX"
        refine opd_neNil hu0 ?_
        exact ⟨_, rfl, rfl, rfl⟩
    rintro kk μ12 ⟨rfl, rfl⟩
    refine ifk (fun hk => nomatch hk) (fun _ => ?_)
    refine sds_nil ?_
    refine sds_cons ?_
    refine sd_if (et_mono (Q := fun k μ' => k = false ∧ μ' = μ12) ?_ ?_)
    · have Ea2 := Ea.rep (k := 2) (by omega) (by decide)
      have Ea3 := Ea.rep (k := 3) (by omega) (by decide)
      have Ea0 := Ea.rep (k := 0) (by omega) (by decide)
      have Eaa : EvsN (a ++ a) := Eap Ea Ea (by omega)
      have E0 : EvsN [] := ⟨fun _ h => (List.not_mem_nil h).elim, by decide⟩
      walk_at "pdX"
      refine opd_ownInt (mul_History T) rfl (ok_History_mul T) hr (by decide) ⟨_, _, rfl, by assumption, by omega, by decide, by decide, ?_⟩
      walk_at "pdX"
      refine opd_ownInt (mul_History T) rfl (ok_History_mul T) hr (by decide) ⟨_, _, rfl, by assumption, by omega, by decide, by decide, ?_⟩
      walk_at "pdX"
      refine opd_leM (m_History_le T) rfl (.obj (ct_History T) _ _) nf_same (ok_History_le T) hr (by decide) hu0 ⟨_, _, rfl, by assumption, by assumption, ?_⟩
      rw [comes_of (rep_sub a)]
      refine ⟨_, rfl, iteFr rfl ?_⟩
      walk_at "pdX"
      refine opd_ownInt (mul_History T) rfl (ok_History_mul T) hr (by decide) ⟨_, _, rfl, by assumption, by omega, by decide, by decide, ?_⟩
      walk_at "pdX"
      refine hist_of (es := []) E0 (.tup _) ?_
      walk_at "pdX"
      rw [show repE a 0 = [] from rfl]
      refine opd_neOwn (ne_History T) rfl (.obj (ct_History T) _ _) nf_same (ok_History_eq T) hr (by decide) ⟨_, _, rfl, by assumption, Or.inl ⟨_, rfl, by assumption, _, rfl, ?_⟩⟩
      refine ⟨_, rfl, iteFr (by simp) ?_⟩
      walk_at "pdX"
      refine opd_ownOwn (add_History T) rfl rfl (ok_History_add T) hr (by decide) ⟨_, _, rfl, by assumption, ?_⟩
      walk_at "pdX"
      refine opd_ownInt (mul_History T) rfl (ok_History_mul T) hr (by decide) ⟨_, _, rfl, by assumption, by omega, by decide, by decide, ?_⟩
      walk_at "pdX"
      refine opd_neOwn (ne_History T) rfl (.obj (ct_History T) _ _) nf_same (ok_History_eq T) hr (by decide) ⟨_, _, rfl, by assumption, Or.inl ⟨_, rfl, by assumption, _, rfl, ?_⟩⟩
      exact ⟨_, rfl, by rw [show repE a 2 = a ++ a from by show [a, a].flatten = _; simp]; simp, rfl⟩
    rintro kk μ13 ⟨rfl, rfl⟩
    refine ifk (fun hk => nomatch hk) (fun _ => ?_)
    refine sds_nil ?_
    refine sds_nil ?_
    exact ⟨_, _, _, _, _, _, _, rfl, hD6⟩
  rintro δ' μ' ⟨x2, x3, x4, x5, x6, x7, x8, rfl, hD⟩
  refine sds_cons ?_
  walk_at "pd"
  exact q _
end
end
theorem facts {P : Program} {w : World} {K : PySem.W.Frag} {h : Heap} {mg : Str → Option Value} {f : Addr} (X : K.In h) (G : h.Ns mainGlobals mg) (hfa : mg ("law" : Str) = some (.ref f)) (c : sayP fa fn fx ts ex K = valP fn fx ts w) :
    ∃ fd : FuncData, (∀ (s : Shared) (v : Value), BindsTo s fd ⟨[v], []⟩ [("_law_script", v)]) ∧ ∀ base : Heap, K.In base → base.Ns mainGlobals mg → FnD false P w K mg base 8 f fd ["_law_script"] spLaw := by
  have T : T0 w K mg := txp_of X G c
  obtain ⟨fd, F⟩ := f_law T
  cases hfa.symm.trans (g_law T)
  have b := FunD.bindsA (ps := ["_law_script"]) F fun _ _ _ _ _ _ us hl => match us, hl with | [_], _ => rfl
  exact ⟨fd, fun s v => b s [v] rfl, fun base _ _ => ok_law T F⟩
end LW
open PySem PySem.W PySem.Calls PyProof.Rows
theorem PySem.Challenge.cw_joinsback_k12_whole_histories_and_their_holds : PySem.Challenge.rw_joinsback_k12_whole_histories_and_their.Holds := by
  exact LW.fin fun P w K h mg f X G hfa c => LW.facts X G hfa c
