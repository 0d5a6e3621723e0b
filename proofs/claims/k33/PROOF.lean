import PyProof.Rows.All
import Wide.All
import OpenK.AllK
import Wide.FinOn
import HandS.ForMost
import HandS.ForExc
import HandS.Wide
import HandS.CallSlots
import HandS.ExcCtx
import HandS.SuiteRaise
import HandS.Lambda
import HandS.TupAny
import HandS.Strs
import HandS.Style
import HandS.IsInst
import HandS.Deep
import PyProof.Rows.SetFrom
import HandS.SetFor
import HandS.More
import HandS.Zip
import HandS.Conv
import KE.DataFind
import HandS.SetKeys
import HandS.RaiseOp
import HandS.Small
import HandS.NoneIn
import KE.SortData
import KE.DataMinMax
import HandS.Walk
import KE.GoesEnum
import KE.OsSortAny
import HandS.ExcInit
import HandS.ExcField
import HandS.ClsMeth
import HandS.IterVal
import KE.KDictZip
import HandS.TryElse
import HandS.Finally
import HandS.DictTup
import HandS.Defaults
import HandS.RaiseFrom
import HandS.ExcInitHot
import KE.KAsSuite
import HandS.Text
import HandS.ExcIs
import KE.KExcIs
import KE.KDictPairs
import HandS.TryOnly
import HandS.Iter
import HandS.TupLen
import KE.KEqDict
import KE.GoesZip
import KE.GoesMore
import KE.KDictItemsList
import PyProof.ReprReads
import KE.SortKeyHeap
import HandS.EndTab
import PySem.Challenge.RW_parentlines_k33_given_and_taken
set_option Elab.async false
set_option linter.all false
set_option maxRecDepth 100000
set_option maxHeartbeats 4000000
set_option maxHeartbeats 8000000
/-! ### exceptions whose context is None, or one whose context is None -/
namespace LM
open PySem PySem.Spec PyProof.Rows L2
abbrev St := L2.St
/-- the context, as it stands -/
abbrev Ctx := Option (Addr × Obj)
def cv : Ctx → Value
  | none => .none
  | some p => .ref p.1
def Zm (cls : Value) (d : Option Addr) (c : Ctx) : Obj → Prop := fun o => o.cls = cls ∧ o.dict = d ∧ ∀ vs : Array Value, o.data = .fields vs → vs[2]? = some (cv c)
theorem steady_cv {c : Ctx} : PXN.Steady1 (fun o => ∀ vs : Array Value, o.data = .fields vs → vs[2]? = some (cv c)) := fun o v h => by
  obtain ⟨k, d, dt, sl⟩ := o
  cases dt with
  | fields vs0 =>
    intro vs e
    have e2 : vs0.setIfInBounds 1 v = vs := Data.fields.inj e
    have e3 : (vs0.setIfInBounds 1 v)[2]? = vs0[2]? := by
      first
      | exact Array.getElem?_setIfInBounds_ne (by decide)
      | simp [Array.getElem?_setIfInBounds]
    rw [← e2, e3]
    exact h vs0 rfl
  | _ =>
    intro vs e
    first
    | exact Data.noConfusion e
    | cases e
theorem Zm.steady {cls : Value} {d : Option Addr} {c : Ctx} : PXN.Steady1 (Zm cls d c) := fun o v h => ⟨PXN.steady_cls o v h.1, PXN.steady_dict o v h.2.1, steady_cv o v h.2.2⟩
/-- F: whether there may be a context at all -/
def CtxOk (F : Bool) (B : Heap) (H : Hp) (c : Ctx) : Prop := ∀ p, c = some p → F = true ∧ B.get? p.1 = some p.2 ∧ H p.1 = none ∧ ∃ vy : Array Value, p.2.data = .fields vy ∧ vy[2]? = some .none
theorem ctx_none {F : Bool} {B : Heap} {H : Hp} : CtxOk F B H none := fun _ e => nomatch e
theorem CtxOk.imp {F : Bool} {B : Heap} {H : Hp} {c : Ctx} (h : CtxOk F B H c) : CtxOk true B H c := fun p e => ⟨rfl, (h p e).2⟩
def XE (F : Bool) (X : Cx) (W : WX) (u : Value) (s' : Shared) : Prop :=
  ∃ (a : Addr) (B : Heap) (sI : Shared) (pins : List (Addr × Obj)) (σ : St) (H : Hp) (cls : Value) (d : Option Addr) (c : Ctx),
    u = .ref a ∧ Inv X pins σ H sI ∧ (∀ b o, sI.heap.get? b = some o → b ∉ frs X.stack → B.get? b = some o) ∧ sI.heap.UpToSlots s'.heap ∧
      Sky B X.stack a (Zm cls d c) X.env.locals s'.heap ∧ H a = none ∧ s'.os = sI.os ∧ AllBare s'.gens ∧ CtxOk F B H c ∧ W cls d σ H
def Takes (F : Bool) (X : Cx) (W : WX) : Prop := ∀ u s', XE F X W u s' → X.xe u s'
theorem takesN {X : Cx} {W : WX} : L2N.Takes X W ↔ Takes false X W := by
  constructor
  · rintro t u s' ⟨a, B, sI, pins, σ, H, cls, d, c, e, I, nb, up, sky, na, os, ag, ck, w⟩
    cases c with
    | none => exact t u s' ⟨a, B, sI, pins, σ, H, cls, d, e, I, nb, up, sky, na, os, ag, w⟩
    | some p => exact Bool.noConfusion (ck p rfl).1
  · rintro t u s' ⟨a, B, sI, pins, σ, H, cls, d, e, I, nb, up, sky, na, os, ag, w⟩
    exact t u s' ⟨a, B, sI, pins, σ, H, cls, d, none, e, I, nb, up, sky, na, os, ag, ctx_none, w⟩
theorem tn_of {X : Cx} {W : WX} (t : Takes true X W) : L2N.Takes X W := takesN.mpr fun u s' ⟨a, B, sI, pins, σ, H, cls, d, c, e, I, nb, up, sky, na, os, ag, ck, w⟩ => t u s' ⟨a, B, sI, pins, σ, H, cls, d, c, e, I, nb, up, sky, na, os, ag, ck.imp, w⟩
def CX (F : Bool) (P : Program) (w : World) (outer : List Env) (H : Hp) (s : Shared) (E : XK) (u : Value) (s' : Shared) : Prop :=
  ∃ (a : Addr) (B : Heap) (H' : Hp) (cls : Value) (d : Option Addr) (c : Ctx), u = .ref a ∧ HandSPX.FlyingZ B outer a (Zm cls d c) s'.heap ∧ HOk P w H' B ∧ UB (frs outer) H H' s.heap B s'.heap ∧ H' a = none ∧ s'.os = s.os ∧ AllBare s'.gens ∧ CtxOk F B H' c ∧ E cls d H'
section
variable {F : Bool} {X : Cx} {pins : List (Addr × Obj)} {σ : St} {H : Hp} {sI s s' : Shared} {B : Heap} {W : WX} {E : XK}
/-- a call's exception is in our air -/
theorem XE.of_call (I : Inv X pins σ H s) (hW : ∀ cls d H', E cls d H' → W cls d σ H') {u : Value} (c : CX F X.prog X.w X.stack H s E u s') : XE F X W u s' := by
  obtain ⟨a, B, H', cls, d, c, rfl, fl, hok, ub, na, os, ag, ck, hE⟩ := c
  obtain ⟨G, g1, g2⟩ := restrict s'.heap fun b => (B.get? b).isSome || decide (b ∈ frs X.stack)
  have st : B.StaysIn s'.heap := fl.1
  have gB : ∀ b o, B.get? b = some o → G.get? b = some o := fun b o e => by
    rw [g1 b (by simp [e])]
    exact st b o e
  have gF : ∀ b, b ∈ frs X.stack → G.get? b = s'.heap.get? b := fun b hb => g1 b (by simp [hb])
  have og : ∀ b o, G.get? b = some o → s'.heap.get? b = some o ∧ ((B.get? b).isSome = true ∨ b ∈ frs X.stack) := fun b o e => by
    cases q : ((B.get? b).isSome || decide (b ∈ frs X.stack)) with
    | false => rw [g2 b q] at e; cases e
    | true =>
      rw [g1 b q] at e
      exact ⟨e, by simpa [Bool.or_eq_true] using q⟩
  refine ⟨a, B, { s with heap := G, gens := s'.gens, drawn := s'.drawn, toks := s'.toks }, pins, σ, H', cls, d, c, rfl, ?_, fun b o e hb => ?_, Heap.UpToSlots.of_keeps fun b o e => (og b o e).1, .inr (.inl fl), na, os, ag, ck, hW _ _ _ hE⟩
  · refine I.call (ch := []) ⟨fun b o e n hb _ => gB b o (ub.keep b o e n hb), fun b o e n hb _ => ?_, fun b o e n _ => ub.free b o e n, fun b o e _ => ?_, ub.tups, ub.frzs, ub.tbls⟩ (hok.kept gB) ag (fun _ z => nomatch z)
    · obtain ⟨sl, q⟩ := ub.slot b o e hb
      exact ⟨sl, by rw [gF b hb]; exact q⟩
    · by_cases hb : b ∈ frs X.stack
      · obtain ⟨sl, q⟩ := ub.slot b o e hb
        exact ⟨_, by rw [gF b hb]; exact q⟩
      · obtain ⟨o', q⟩ := ub.there b o e hb
        exact ⟨o', gB b o' q⟩
  · obtain ⟨e', h⟩ := og b o e
    rcases h with h | h
    · obtain ⟨o', q⟩ := Option.isSome_iff_exists.mp h
      have z := st b o' q
      rw [e'] at z; cases z
      exact q
    · exact absurd h hb
/-- a new exception is in our air -/
theorem XE.new {a : Addr} {oe : Obj} {vs : Array Value} {cls : Value} {d : Option Addr} {c : Ctx} (I : Inv X pins σ H sI) (k : ∀ b o, sI.heap.get? b = some o → s'.heap.get? b = some o) (hne : sI.heap.get? a = none) (he : s'.heap.get? a = some oe)
    (hz : Zm cls d c oe) (hd : oe.data = .fields vs) (h1 : vs[1]? = some .none) (na : H a = none) (os : s'.os = sI.os) (ag : AllBare s'.gens) (ck : ∀ p, c = some p → F = true ∧ sI.heap.get? p.1 = some p.2 ∧ p.1 ∉ frs X.stack ∧ H p.1 = none ∧ ∃ vy : Array Value, p.2.data = .fields vy ∧ vy[2]? = some .none) (w : W cls d σ H) : XE F X W (.ref a) s' := by
  refine ⟨a, PySem.W.hideAll sI.heap (frs X.stack), sI, pins, σ, H, cls, d, c, rfl, I, fun b o e hb => PySem.W.hideAll_get _ e hb, Heap.UpToSlots.of_keeps k,
    .inl ⟨fun b o e => k b o (PySem.W.of_hideAll _ e), ?_, ?_, oe, vs, he, hz, hd, h1⟩, na, os, ag, fun p e => ?_, w⟩
  · cases q : (PySem.W.hideAll sI.heap (frs X.stack)).get? a with
    | none => rfl
    | some o =>
      have z := PySem.W.of_hideAll _ q
      rw [hne] at z; cases z
  · exact Heap.FunFrames.of_keeps (fun b o e _ => ⟨o, k b o e, rfl⟩) (funFrames_none I.stack fun b hb => PySem.W.hideAll_none _ hb)
  · obtain ⟨h1, h2, h3, h4, h5⟩ := ck p e
    exact ⟨h1, PySem.W.hideAll_get _ h2 h3, h4, h5⟩
/-- it leaves the def -/
theorem XE.leave (hs : X.stack = X.env :: X.outer) (hf : X.env.frame = some X.env.locals) (hex : X.ex = []) {E₁ : Value → Shared → Prop} (hW : ∀ cls d σ H, W cls d σ H → E cls d H) {u : Value} (x : XE F X W u s') :
    wpAny (model X.prog X.w) X.A (leaving X.env u) (fun _ s'' => CX F X.prog X.w X.outer X.H_0 X.s_0 E u s'') E₁ s' := by
  obtain ⟨a, B, sI, pins, σ, H, cls, d, c, rfl, I, nb, up, sky, na, os, ag, ck, w⟩ := x
  have hfr : X.A.frames = some (X.env :: X.outer) := by rw [I.ok.frames, hs]
  have nst : ∀ b o, X.s_0.heap.get? b = some o → b ∉ X.fs → b ∉ frs X.stack := fun b o e hb hm => by
    rcases List.mem_cons.mp (I.stkSub b hm) with z | z
    · have h1 := Heap.lt_size e
      have h2 := I.ok.above
      rw [z] at h1
      exact absurd (Nat.lt_of_lt_of_le h1 h2) (Nat.lt_irrefl _)
    · exact hb z
  have hex' : ∀ b, b ∉ X.ex := fun b hb => by rw [hex] at hb; cases hb
  have hokB := I.inGround nb
  have fin : ∀ h', HandSPX.FlyingZ B X.outer a (Zm cls d c) h' → s'.heap.UpToSlots h' → CX F X.prog X.w X.outer X.H_0 X.s_0 E (.ref a) { s' with heap := h' } := fun h' fl up' => by
    refine ⟨a, B, H, cls, d, c, rfl, fl, hokB, ⟨fun b o e n hb => nb b o (I.base.keep b o e n hb (hex' b)) (nst b o e hb), fun b o e hb => ?_, fun b o e n => I.base.free b o e n (hex' b), fun b o e hb => ?_, I.base.tups, I.base.frzs, I.base.tbls⟩,
      na, os.trans I.os, ag, ck, hW _ _ _ _ w⟩
    · obtain ⟨_, o₀, e₀, hnf⟩ := I.ok.funs.mem hb
      rw [e] at e₀; cases e₀
      obtain ⟨sl, e1⟩ := I.base.slot b o e (I.ok.frf b hb) hb (hex' b)
      obtain ⟨sl2, e2⟩ := up b _ e1 hnf
      obtain ⟨sl3, e3⟩ := up' b _ e2 hnf
      exact ⟨sl3, e3⟩
    · obtain ⟨o', e1⟩ := I.base.there b o e (hex' b)
      exact ⟨o', nb b o' e1 (nst b o e hb)⟩
  rw [hs] at sky
  rcases sky with ⟨hB, hn, hl, oe, vs, he, hz, hd, h1⟩ | fl | hd
  · exact PXN.leaving_firstZ Zm.steady hfr hl hf he hB hn hd h1 hz fin
  · exact PXN.leaves_onZ Zm.steady hfr hf fl fin
  · exact HandSPX.leaves_heldZ hf hd fin
theorem takes_of (hs : X.stack = X.env :: X.outer) (hf : X.env.frame = some X.env.locals) (hex : X.ex = []) {E₁ : Value → Shared → Prop}
    (hx : X.xe = fun e s' => wpAny (model X.prog X.w) X.A (leaving X.env e) (fun _ s'' => CX F X.prog X.w X.outer X.H_0 X.s_0 E e s'') E₁ s') : Takes F X (fun cls d _ H => E cls d H) := fun u s' x => by
  rw [hx]
  exact XE.leave (W := fun cls d _ H => E cls d H) (E := E) hs hf hex (fun _ _ _ _ h => h) x
theorem passAt {X : Cx} {W : WX} (tk : Takes F X W) (σ : St) : PassesAt (CX F X.prog X.w) X σ (WE W σ) := fun _ _ _ e s' I c => tk e s' (XE.of_call I (fun _ _ _ h => h) c)
end
/-- the head is the exception that is handled, behind it may stand its context -/
def HotL (A : Around) : List (Addr × Obj) → Prop
  | [] => False
  | q :: r => A.handled = some (.ref q.1) ∧ ∃ vs : Array Value, q.2.data = .fields vs ∧ (vs[2]? = some .none ∨ ∃ y ∈ r, vs[2]? = some (.ref y.1) ∧ ∃ vy : Array Value, y.2.data = .fields vy ∧ vy[2]? = some .none)
/-! #### try, clauses with or without names, else -/
end LM
/-! ### a layer of values over the hand layer: readings without addresses -/
namespace Dl
open PySem PySem.Spec PyProof.Rows L2
abbrev Fg := PySem.W.Frag
/-- the tables of code objects that change as the law runs (a def's that makes lambdas), and the name that each code object in it bears -/
class TabsC where
  T : List (Addr × Str)
variable [TabsC]
/-- data | a cell | a tuple that is a key of a dict | a pair that a walk hands out, of data, of a key and data | an exception that is handled, by its place -/
inductive W where
  | d (x : PyData)
  | c (k : Nat)
  | k (ks : List Key)
  | p (ds : List PyData)
  | q (ks : List Key) (x : PyData)
  | o (a : Addr) (d : Option Addr) (fs : List (Str × PyData))
  | t (xs : List (PyData ⊕ Nat))
/-- what stands in a tuple that holds cells -/
def tiW : PyData ⊕ Nat → W
  | .inl x => .d x
  | .inr k => .c k
inductive Cell where
  | lst (xs : List W)
  | dic (kvs : List (Key × W))
  | dct (kvs : List (List Key × W))
  | ldic (od : Obj) (es : List (Key × V)) (kvs : List (Key × W))
  | ldct (od : Obj) (es : List (List Key × V)) (kvs : List (List Key × W))
  | ins (C : Str) (fs : List (Str × W))
  | gone
abbrev Gm := List (Option W)
abbrev Oh := List Cell
structure Exn where
  cls : Str
  fs : List (Str × PyData)
abbrev DK := W → Oh → Prop
abbrev DX := Exn → Gm → Oh → Prop
abbrev DEx := Gm → Oh → DK → DX → Prop
abbrev DT := Gm → Oh → (Bool → Oh → Prop) → DX → Prop
abbrev DA := Gm → Oh → (List W → Oh → Prop) → DX → Prop
structure DEnds where
  nx : Gm → Oh → Prop
  rt : DK
  bk : Gm → Oh → Prop
  ct : Gm → Oh → Prop
abbrev DSt := DEnds → DX → Gm → Oh → Prop
abbrev DFn := List W → Oh → DK → (Exn → Oh → Prop) → Prop
/-! #### heaps that grow -/
def Ex (H H' : Hp) : Prop := ∀ a o, H a = some o → H' a = some o
theorem Ex.refl (H : Hp) : Ex H H := fun _ _ h => h
theorem Ex.trans {H H1 H2 : Hp} (a : Ex H H1) (b : Ex H1 H2) : Ex H H2 := fun x o h => b x o (a x o h)
theorem Ex.new {H : Hp} {p : Addr} {o : HO} (h : H p = none) : Ex H (upd H p o) := fun a u e => by
  rw [upd_ne (ne_of_none e h)]
  exact e
theorem Ex.free {H H' : Hp} {p : Addr} (e : Ex H H') (h : H' p = none) : H p = none := by
  cases h1 : H p with
  | none => rfl
  | some o => rw [e p o h1] at h; cases h
theorem Ex.rd {H H' : Hp} {a : Addr} {u : HO} (e : Ex H H') (h : Rd H a u) : Rd H' a u := by
  rcases h with h | ⟨o, h⟩
  · exact Or.inl (e a _ h)
  · exact Or.inr ⟨o, e a _ h⟩
theorem Ex.sqL {K : Fg} {H H' : Hp} {a : Addr} {xs : List V} (e : Ex H H') (h : SqL K H a xs) : SqL K H' a xs := h.imp e.rd id
theorem Ex.sqT {K : Fg} {H H' : Hp} {a : Addr} {xs : List V} (e : Ex H H') (h : SqT K H a xs) : SqT K H' a xs := h.imp e.rd id
/-! #### data that never changes -/
/-- the tuple at a has no dict of its own -/
def TD (K : Fg) (G : Hp) (a : Addr) : Prop := (∃ ob u, G a = some (.frz ob u) ∧ ob.dict = none) ∨ ∃ o, K.lookup a = some o ∧ o.dict = none
theorem TD.mono {K : Fg} {G G' : Hp} {a : Addr} (e : Ex G G') (h : TD K G a) : TD K G' a := h.imp (fun ⟨ob, u, h1, h2⟩ => ⟨ob, u, e _ _ h1, h2⟩) id
def keyD : Key → PyData
  | .inl i => .int i
  | .inr x => .str x
/-- texts of keys are texts -/
def keyOk : Key → Bool
  | .inl _ => true
  | .inr x => PyData.strOk x
mutual
inductive Rp (K : Fg) (G : Hp) : V → PyData → Prop
  | non : Rp K G .non .none
  | bl (b : Bool) : Rp K G (.bl b) (.bool b)
  | int (i : Int) : Rp K G (.int i) (.int i)
  | str (x : Str) : PyData.strOk x = true → Rp K G (.str x) (.str x)
  | lst {a : Addr} {xs : List V} {ds : List PyData} : G a = some (.lst xs) → RpL K G xs ds → Rp K G (.ref a) (.list ds)
  | tup {a : Addr} {xs : List V} {ds : List PyData} : SqT K G a xs → TD K G a → RpL K G xs ds → Rp K G (.ref a) (.tuple ds)
  | scr {a : Addr} (ns : List Int) : SqL K G a (ns.map V.int) → Rp K G (.ref a) (.dict [(.none, .list (ns.map PyData.int))])
  | dk {a : Addr} {ob : Obj} {es : List (Key × V)} {kvs : List (PyData × PyData)} : G a = some (.frz ob (.dK es)) → RpK K G es kvs → Rp K G (.ref a) (.dict kvs)
inductive RpL (K : Fg) (G : Hp) : List V → List PyData → Prop
  | nil : RpL K G [] []
  | cons {v : V} {vs : List V} {d : PyData} {ds : List PyData} : Rp K G v d → RpL K G vs ds → RpL K G (v :: vs) (d :: ds)
inductive RpK (K : Fg) (G : Hp) : List (Key × V) → List (PyData × PyData) → Prop
  | nil : RpK K G [] []
  | cons {k : Key} {v : V} {es : List (Key × V)} {q d : PyData} {kvs : List (PyData × PyData)} : q = keyD k → keyOk k = true → Rp K G v d → RpK K G es kvs → RpK K G ((k, v) :: es) ((q, d) :: kvs)
end
section
variable {K : Fg} {G G' : Hp}
mutual
theorem Rp.mono (e : Ex G G') : ∀ {d : PyData} {v : V}, Rp K G v d → Rp K G' v d
  | .none, _, h => by cases h; exact .non
  | .bool b, _, h => by cases h; exact .bl _
  | .int i, _, h => by cases h; exact .int _
  | .str x, _, h => by cases h with | str _ hx => exact .str _ hx
  | .list ds, _, h => by
    cases h with | lst hs ha => exact .lst (e _ _ hs) (RpL.mono e ha)
  | .tuple ds, _, h => by
    cases h with | tup hs td ha => exact .tup (e.sqT hs) (td.mono e) (RpL.mono e ha)
  | .dict kvs, _, h => by
    cases h with
    | scr ns h => exact .scr ns (e.sqL h)
    | dk hg hk => exact .dk (e _ _ hg) (RpK.mono e hk)
theorem RpL.mono (e : Ex G G') : ∀ {ds : List PyData} {vs : List V}, RpL K G vs ds → RpL K G' vs ds
  | [], _, h => by cases h; exact .nil
  | d :: ds, _, h => by
    cases h with | cons h1 h2 => exact .cons (Rp.mono e h1) (RpL.mono e h2)
theorem RpK.mono (e : Ex G G') : ∀ {kvs : List (PyData × PyData)} {es : List (Key × V)}, RpK K G es kvs → RpK K G' es kvs
  | [], _, h => by cases h; exact .nil
  | (q, d) :: kvs, _, h => by
    cases h with | cons h0 hk h1 h2 => exact .cons h0 hk (Rp.mono e h1) (RpK.mono e h2)
end
theorem RpL.length : ∀ {ds : List PyData} {vs : List V}, RpL K G vs ds → vs.length = ds.length
  | [], _, h => by cases h; rfl
  | d :: ds, _, h => by
    cases h with | cons h1 h2 => rw [List.length_cons, List.length_cons, RpL.length h2]
theorem RpL.get : ∀ {ds : List PyData} {vs : List V} {i : Nat} {d : PyData}, RpL K G vs ds → ds[i]? = some d → ∃ v, vs[i]? = some v ∧ Rp K G v d
  | [], _, _, _, _, e => by simp at e
  | d :: ds, _, 0, _, h, e => by
    cases h with
    | cons h1 h2 =>
      simp only [List.getElem?_cons_zero, Option.some.injEq] at e
      subst e
      exact ⟨_, rfl, h1⟩
  | d :: ds, _, i + 1, _, h, e => by
    cases h with
    | cons h1 h2 =>
      obtain ⟨v, q1, q2⟩ := RpL.get (i := i) h2 (by simpa using e)
      exact ⟨v, by simpa using q1, q2⟩
theorem RpL.append : ∀ {ds es : List PyData} {vs us : List V}, RpL K G vs ds → RpL K G us es → RpL K G (vs ++ us) (ds ++ es)
  | [], _, _, _, h, h' => by cases h; exact h'
  | d :: ds, _, _, _, h, h' => by
    cases h with | cons h1 h2 => exact .cons h1 (RpL.append h2 h')
theorem RpL.drop : ∀ {ds : List PyData} {vs : List V} (n : Nat), RpL K G vs ds → RpL K G (vs.drop n) (ds.drop n)
  | _, _, 0, h => h
  | [], _, n + 1, h => by cases h; exact .nil
  | d :: ds, _, n + 1, h => by
    cases h with | cons h1 h2 => exact RpL.drop n h2
theorem RpL.take : ∀ {ds : List PyData} {vs : List V} (n : Nat), RpL K G vs ds → RpL K G (vs.take n) (ds.take n)
  | _, _, 0, h => .nil
  | [], _, n + 1, h => by cases h; exact .nil
  | d :: ds, _, n + 1, h => by
    cases h with | cons h1 h2 => exact .cons h1 (RpL.take n h2)
theorem RpL.reverse : ∀ {ds : List PyData} {vs : List V}, RpL K G vs ds → RpL K G vs.reverse ds.reverse
  | [], _, h => by cases h; exact .nil
  | d :: ds, _, h => by
    cases h with
    | cons h1 h2 =>
      rw [List.reverse_cons, List.reverse_cons]
      exact (RpL.reverse h2).append (.cons h1 .nil)
theorem RpL.ints : ∀ (ns : List Int), RpL K G (ns.map V.int) (ns.map PyData.int)
  | [] => .nil
  | n :: r => .cons (.int n) (RpL.ints r)
/-! #### values -/
/-- the cells' addresses; what is hidden for a while, and stays -/
structure Al where
  as : List Addr
  hid : List (Addr × HO)
def Pre (α α' : Al) : Prop := α.as <+: α'.as ∧ α'.hid = α.hid
theorem Pre.refl (α : Al) : Pre α α := ⟨List.prefix_refl _, rfl⟩
theorem Pre.trans {α β γ : Al} (a : Pre α β) (b : Pre β γ) : Pre α γ := ⟨a.1.trans b.1, b.2.trans a.2⟩
def Al.push (α : Al) (p : Addr) : Al := ⟨α.as ++ [p], α.hid⟩
theorem Pre.push {α : Al} {p : Addr} : Pre α (α.push p) := ⟨List.prefix_append _ _, rfl⟩
def Al.cut (α : Al) (n : Nat) : Al := ⟨α.as.take n, α.hid⟩
theorem RpL.keys {K : Fg} {G : Hp} : ∀ {ks : List Key}, ks.all keyOk = true → RpL K G (ks.map kV) (ks.map keyD)
  | [], _ => .nil
  | .inl i :: r, h => by
    rw [List.all_cons, Bool.and_eq_true] at h
    exact .cons (.int i) (RpL.keys h.2)
  | .inr x :: r, h => by
    rw [List.all_cons, Bool.and_eq_true] at h
    exact .cons (.str x h.1) (RpL.keys h.2)
/-- an item of a tuple that holds cells -/
def Ri (K : Fg) (G : Hp) (α : Al) (v : V) : PyData ⊕ Nat → Prop
  | .inl x => Rp K G v x
  | .inr k => ∃ a, α.as[k]? = some a ∧ v = .ref a
def Rv (K : Fg) (G : Hp) (α : Al) (v : V) : W → Prop
  | .d x => Rp K G v x
  | .c k => ∃ a, α.as[k]? = some a ∧ v = .ref a
  | .k ks => ks.all keyOk = true ∧ ∃ a, v = .ref a ∧ G a = some (.tup (ks.map kV))
  | .p ds => ∃ a vs, v = .ref a ∧ SqT K G a vs ∧ RpL K G vs ds
  | .q ks x => ks.all keyOk = true ∧ ∃ a b u, v = .ref a ∧ SqT K G a [.ref b, u] ∧ G b = some (.tup (ks.map kV)) ∧ Rp K G u x
  | .o a d fs => v = .ref a ∧ (fs = [] → d = none) ∧ (fs ≠ [] → ∃ dd vs, d = some dd ∧ G dd = some (.xd vs) ∧ Paired (fun (p : Str × V) (q : Str × PyData) => p.1 = q.1 ∧ Rp K G p.2 q.2) vs fs)
  | .t xs => ∃ a vs, v = .ref a ∧ G a = some (.tup vs) ∧ Paired (Ri K G α) vs xs
abbrev RvL (K : Fg) (G : Hp) (α : Al) : List V → List W → Prop := Paired (Rv K G α)
variable {α α' : Al}
theorem fields_mono {K : Fg} {G G' : Hp} (e : Ex G G') : ∀ {vs : List (Str × V)} {fs : List (Str × PyData)}, Paired (fun (p : Str × V) (q : Str × PyData) => p.1 = q.1 ∧ Rp K G p.2 q.2) vs fs → Paired (fun (p : Str × V) (q : Str × PyData) => p.1 = q.1 ∧ Rp K G' p.2 q.2) vs fs
  | _, _, .nil => .nil
  | _, _, .cons h t => .cons ⟨h.1, h.2.mono e⟩ (fields_mono e t)
theorem pre_get {k : Nat} {a : Addr} (h : Pre α α') (e : α.as[k]? = some a) : α'.as[k]? = some a := by
  obtain ⟨⟨t, ht⟩, _⟩ := h
  rw [← ht, List.getElem?_append_left (List.getElem?_eq_some_iff.mp e).1]
  exact e
theorem RiL.mono (e : Ex G G') (p : Pre α α') : ∀ {vs : List V} {xs : List (PyData ⊕ Nat)}, Paired (Ri K G α) vs xs → Paired (Ri K G' α') vs xs
  | _, _, .nil => .nil
  | _, .inl x :: _, .cons h t => .cons (show Ri K G' α' _ (.inl x) from Rp.mono e h) (RiL.mono e p t)
  | _, .inr k :: _, .cons h t => .cons (show Ri K G' α' _ (.inr k) from by obtain ⟨a, h1, h2⟩ := h; exact ⟨a, pre_get p h1, h2⟩) (RiL.mono e p t)
theorem Rv.mono {v : V} {w : W} (e : Ex G G') (p : Pre α α') (h : Rv K G α v w) : Rv K G' α' v w := by
  cases w with
  | d x => exact Rp.mono e h
  | c k =>
    obtain ⟨a, h1, h2⟩ := h
    exact ⟨a, pre_get p h1, h2⟩
  | k ks =>
    obtain ⟨h0, a, h1, h2⟩ := h
    exact ⟨h0, a, h1, e _ _ h2⟩
  | p ds =>
    obtain ⟨a, vs, h1, h2, h3⟩ := h
    exact ⟨a, vs, h1, e.sqT h2, RpL.mono e h3⟩
  | q ks x =>
    obtain ⟨h0, a, b, u, h1, h2, h3, h4⟩ := h
    exact ⟨h0, a, b, u, h1, e.sqT h2, e _ _ h3, Rp.mono e h4⟩
  | o a d fs =>
    obtain ⟨h1, h0, h2⟩ := h
    refine ⟨h1, h0, fun z => ?_⟩
    obtain ⟨dd, vs, q1, q2, q3⟩ := h2 z
    exact ⟨dd, vs, q1, e _ _ q2, fields_mono e q3⟩
  | t xs =>
    obtain ⟨a, vs, h1, h2, h3⟩ := h
    exact ⟨a, vs, h1, e _ _ h2, RiL.mono e p h3⟩
theorem RvL.mono (e : Ex G G') (p : Pre α α') : ∀ {vs : List V} {ws : List W}, RvL K G α vs ws → RvL K G' α' vs ws
  | _, _, .nil => .nil
  | _, _, .cons h t => .cons (h.mono e p) (RvL.mono e p t)
theorem RvL.ofD : ∀ {ds : List PyData} {vs : List V}, RpL K G vs ds → RvL K G α vs (ds.map W.d)
  | [], _, h => by cases h; exact .nil
  | d :: ds, _, h => by
    cases h with | cons h1 h2 => exact .cons h1 (RvL.ofD h2)
theorem RvL.toD : ∀ {ds : List PyData} {vs : List V}, RvL K G α vs (ds.map W.d) → RpL K G vs ds
  | [], _, h => by cases h; exact .nil
  | d :: ds, _, h => by
    cases h with | cons h1 h2 => exact .cons h1 (RvL.toD h2)
theorem RiL.rv : ∀ {vs : List V} {xs : List (PyData ⊕ Nat)}, Paired (Ri K G α) vs xs → RvL K G α vs (xs.map tiW)
  | _, _, .nil => .nil
  | _, .inl x :: _, .cons h t => .cons (show Rv K G α _ (.d x) from h) (RiL.rv t)
  | _, .inr k :: _, .cons h t => .cons (show Rv K G α _ (.c k) from h) (RiL.rv t)
theorem RvL.len {vs : List V} {ws : List W} (h : RvL K G α vs ws) : vs.length = ws.length := Paired.length h
theorem RvL.get : ∀ {vs : List V} {ws : List W} {i : Nat} {w : W}, RvL K G α vs ws → ws[i]? = some w → ∃ v, vs[i]? = some v ∧ Rv K G α v w
  | _, _, _, _, .nil, e => by simp at e
  | _, _, 0, _, .cons r _, e => by simp at e; subst e; exact ⟨_, rfl, r⟩
  | _, _, i + 1, x, .cons _ t, e => by
    obtain ⟨u, h1, h2⟩ := RvL.get (i := i) (w := x) t (by simpa using e)
    exact ⟨u, by simpa using h1, h2⟩
theorem RvL.append : ∀ {vs us : List V} {ws zs : List W}, RvL K G α vs ws → RvL K G α us zs → RvL K G α (vs ++ us) (ws ++ zs)
  | _, _, _, _, .nil, h => h
  | _, _, _, _, .cons r t, h => .cons r (RvL.append t h)
theorem RvL.set {v : V} {w : W} (h : Rv K G α v w) : ∀ {vs : List V} {ws : List W} (i : Nat), RvL K G α vs ws → RvL K G α (vs.set i v) (ws.set i w)
  | _, _, _, .nil => .nil
  | _, _, 0, .cons _ t => .cons h t
  | _, _, i + 1, .cons q t => .cons q (RvL.set h i t)
theorem RvL.drop : ∀ {vs : List V} {ws : List W} (n : Nat), RvL K G α vs ws → RvL K G α (vs.drop n) (ws.drop n)
  | _, _, 0, h => h
  | _, _, _ + 1, .nil => .nil
  | _, _, n + 1, .cons _ t => RvL.drop n t
theorem RvL.take : ∀ {vs : List V} {ws : List W} (n : Nat), RvL K G α vs ws → RvL K G α (vs.take n) (ws.take n)
  | _, _, 0, h => .nil
  | _, _, _ + 1, .nil => .nil
  | _, _, n + 1, .cons r t => .cons r (RvL.take n t)
/-! #### cells: what changes -/
def RK (K : Fg) (G : Hp) (α : Al) {κ : Type} : List (κ × V) → List (κ × W) → Prop := Paired fun (p : κ × V) (q : κ × W) => p.1 = q.1 ∧ Rv K G α p.2 q.2
theorem RK.mono {κ : Type} (e : Ex G G') (p : Pre α α') : ∀ {vs : List (κ × V)} {ws : List (κ × W)}, RK K G α vs ws → RK K G' α' vs ws
  | _, _, .nil => .nil
  | _, _, .cons h t => .cons ⟨h.1, h.2.mono e p⟩ (RK.mono e p t)
def COk (K : Fg) (mg : Str → Option Value) (G : Hp) (α : Al) (H : Hp) (a : Addr) : Cell → Prop
  | .lst xs => G a = none ∧ ∃ vs, H a = some (.lst vs) ∧ RvL K G α vs xs
  | .dic kvs => G a = none ∧ ∃ es, H a = some (.dK es) ∧ RK K G α es kvs
  | .dct kvs => G a = none ∧ ∃ es, H a = some (.dT es) ∧ RK K G α es kvs
  | .ldic od es kvs => G a = none ∧ H a = some (.frz od (.dK es)) ∧ RK K G α es kvs
  | .ldct od es kvs => G a = none ∧ H a = some (.frz od (.dT es)) ∧ RK K G α es kvs
  | .ins C fs => G a = none ∧ ∃ Ca dx es, mg C = some (.ref Ca) ∧ H a = some (.ins Ca dx es) ∧ H dx = some (.own a) ∧ G dx = none ∧ dx ∉ α.as ∧ RK K G α es fs
  | .gone => True
/-- no dict of an instance, no tuple -/
def NoOT (o : HO) : Prop := (∀ b, o ≠ .own b) ∧ ∀ xs, o ≠ .tup xs
/-- neither a cell nor hidden -/
def Off (α : Al) (b : Addr) : Prop := b ∉ α.as ∧ ∀ q ∈ α.hid, q.1 ≠ b
def TabK (G : Hp) (α : Al) (H : Hp) (P : Addr) (q : Str) : Prop := G P = none ∧ Off α P ∧ ∃ ps : Array Value, H P = some (.tbl ps) ∧ TriplesOk ps.toList ∧ ∀ (pos : Pos) (cv : Value), codeAmong pos ps.toList = some cv → ∃ c, cv = .ref c ∧ H c = some (LamX.CodeO c q) ∧ Off α c
def Tb (G : Hp) (α : Al) (H : Hp) : Prop := ∀ p ∈ TabsC.T, TabK G α H p.1 p.2
/-- a table, or a code object in it -/
def Tt (u : HO) : Prop := (∃ ps, u = .tbl ps) ∨ ∃ c q, u = LamX.CodeO c q
theorem Tt.lst {vs : List V} (h : Tt (.lst vs)) : False := h.elim (fun ⟨_, z⟩ => by cases z) fun ⟨_, _, z⟩ => by cases z
theorem Tt.tup {vs : List V} (h : Tt (.tup vs)) : False := h.elim (fun ⟨_, z⟩ => by cases z) fun ⟨_, _, z⟩ => by cases z
theorem Tt.frz {ob : Obj} {u : HO} (h : Tt (.frz ob u)) : False := h.elim (fun ⟨_, z⟩ => by cases z) fun ⟨_, _, z⟩ => by cases z
theorem Tb.mono {G G' : Hp} {α α' : Al} {H H' : Hp} (t : Tb G α H) (hG : ∀ b u, H b = some u → Tt u → Off α b → G b = none → G' b = none) (hH : ∀ b u, H b = some u → Tt u → Off α b → H' b = some u) (ho : ∀ b u, H b = some u → Tt u → Off α b → Off α' b) : Tb G' α' H' := fun p hp => by
  obtain ⟨g, o, ps, h1, h2, h3⟩ := t p hp
  have t1 : Tt (.tbl ps) := .inl ⟨_, rfl⟩
  refine ⟨hG _ _ h1 t1 o g, ho _ _ h1 t1 o, ps, hH _ _ h1 t1 o, h2, fun pos cv hc => ?_⟩
  obtain ⟨c, e, h4, h5⟩ := h3 pos cv hc
  exact ⟨c, e, hH _ _ h4 (.inr ⟨_, _, rfl⟩) h5, ho _ _ h4 (.inr ⟨_, _, rfl⟩) h5⟩
theorem Off.ne {α : Al} {a b : Addr} {k : Nat} (o : Off α b) (h1 : α.as[k]? = some a) : b ≠ a := fun z => o.1 (by rw [z]; exact List.mem_of_getElem? h1)
structure Rel (K : Fg) (mg : Str → Option Value) (G : Hp) (α : Al) (O : Oh) (H : Hp) : Prop where
  ex : Ex G H
  len : α.as.length = O.length
  nd : α.as.Nodup
  liv : ∀ a ∈ α.as, ∃ o, H a = some o
  at_ : ∀ (k : Nat) (a : Addr) (c : Cell), α.as[k]? = some a → O[k]? = some c → COk K mg G α H a c
  hd : ∀ p ∈ α.hid, H p.1 = some p.2 ∧ G p.1 = none ∧ p.1 ∉ α.as ∧ NoOT p.2
  tb : Tb G α H
structure Sl (K : Fg) (G : Hp) (α : Al) (Γ : Gm) (σ : L2.St) : Prop where
  len : Γ.length = σ.length
  at_ : ∀ (i : Nat) (w : W), Γ[i]? = some (some w) → ∃ v, σ[i]? = some (some v) ∧ Rv K G α v w
theorem Sl.mono {Γ : Gm} {σ : L2.St} (e : Ex G G') (p : Pre α α') (h : Sl K G α Γ σ) : Sl K G' α' Γ σ := ⟨h.len, fun i w q => by
  obtain ⟨v, h1, h2⟩ := h.at_ i w q
  exact ⟨v, h1, h2.mono e p⟩⟩
theorem Sl.set {Γ : Gm} {σ : L2.St} {v : V} {w : W} (h : Sl K G α Γ σ) (r : Rv K G α v w) (i : Nat) : Sl K G α (Γ.set i (some w)) (σ.set i (some v)) := ⟨by rw [List.length_set, List.length_set, h.len], fun j x q => by
  by_cases e : i = j
  · subst e
    by_cases hl : i < Γ.length
    · rw [List.getElem?_set_self hl] at q
      cases q
      refine ⟨v, ?_, r⟩
      rw [List.getElem?_set_self (by rw [← h.len]; exact hl)]
    · rw [List.set_eq_of_length_le (by omega)] at q
      have := (List.getElem?_eq_some_iff.mp q).1
      omega
  · rw [List.getElem?_set_ne e] at q
    obtain ⟨u, h1, h2⟩ := h.at_ j x q
    exact ⟨u, by rw [List.getElem?_set_ne e]; exact h1, h2⟩⟩
theorem Sl.forget {Γ : Gm} {σ : L2.St} (h : Sl K G α Γ σ) (i : Nat) (o : Option V) : Sl K G α (Γ.set i none) (σ.set i o) := ⟨by rw [List.length_set, List.length_set, h.len], fun j x q => by
  by_cases e : i = j
  · subst e
    by_cases hl : i < Γ.length
    · rw [List.getElem?_set_self hl] at q
      cases q
    · rw [List.set_eq_of_length_le (by omega)] at q
      have := (List.getElem?_eq_some_iff.mp q).1
      omega
  · rw [List.getElem?_set_ne e] at q
    obtain ⟨u, h1, h2⟩ := h.at_ j x q
    exact ⟨u, by rw [List.getElem?_set_ne e]; exact h1, h2⟩⟩
variable {mg : Str → Option Value} {O O' : Oh} {H H' : Hp}
theorem COk.mono {a : Addr} {c : Cell} (e : Ex G G') (p : Pre α α') (hn : G a = none → G' a = none) (hd : ∀ b, H b = some (.own a) → G b = none → b ∉ α.as → G' b = none ∧ b ∉ α'.as ∧ H' b = some (.own a)) (hH : ∀ o, H a = some o → H' a = some o)
    (h : COk K mg G α H a c) : COk K mg G' α' H' a c := by
  cases c with
  | lst xs =>
    obtain ⟨h0, vs, h1, h2⟩ := h
    exact ⟨hn h0, vs, hH _ h1, h2.mono e p⟩
  | dic kvs =>
    obtain ⟨h0, vs, h1, h2⟩ := h
    exact ⟨hn h0, vs, hH _ h1, h2.mono e p⟩
  | dct kvs =>
    obtain ⟨h0, vs, h1, h2⟩ := h
    exact ⟨hn h0, vs, hH _ h1, h2.mono e p⟩
  | ldic od es kvs =>
    obtain ⟨h0, h1, h2⟩ := h
    exact ⟨hn h0, hH _ h1, h2.mono e p⟩
  | ldct od es kvs =>
    obtain ⟨h0, h1, h2⟩ := h
    exact ⟨hn h0, hH _ h1, h2.mono e p⟩
  | ins C fs =>
    obtain ⟨h0, Ca, dx, es, h1, h2, h3, h4, h5, h6⟩ := h
    obtain ⟨q1, q2, q3⟩ := hd dx h3 h4 h5
    exact ⟨hn h0, Ca, dx, es, h1, hH _ h2, q3, q1, q2, h6.mono e p⟩
  | gone => trivial
/-- a new thing that never changes -/
theorem Rel.lay {p : Addr} {o : HO} (R : Rel K mg G α O H) (hp : H p = none) : Rel K mg (upd G p o) α O (upd H p o) := by
  have gp : G p = none := R.ex.free hp
  refine ⟨fun a u e => ?_, R.len, R.nd, fun a ha => ?_, fun k a c h1 h2 => ?_, fun q hq => ?_, R.tb.mono (fun b u h _ _ g => by rw [upd_ne (ne_of_none h hp)]; exact g) (fun b u h _ _ => by rw [upd_ne (ne_of_none h hp)]; exact h) (fun _ _ _ _ o => o)⟩
  · by_cases z : a = p
    · subst z
      rw [upd_same] at e ⊢
      exact e
    · rw [upd_ne z] at e ⊢
      exact R.ex a u e
  · obtain ⟨u, e⟩ := R.liv a ha
    exact ⟨u, by rw [upd_ne (ne_of_none e hp)]; exact e⟩
  · obtain ⟨u, e⟩ := R.liv a (List.mem_of_getElem? h1)
    have ne : a ≠ p := ne_of_none e hp
    refine (R.at_ k a c h1 h2).mono (Ex.new gp) (Pre.refl _) (fun z => by rw [upd_ne ne]; exact z) (fun b hb z1 z2 => ?_) fun u z => by rw [upd_ne ne]; exact z
    have nb : b ≠ p := ne_of_none hb hp
    exact ⟨by rw [upd_ne nb]; exact z1, z2, by rw [upd_ne nb]; exact hb⟩
  · obtain ⟨q1, q2, q3, q4⟩ := R.hd q hq
    have nq : q.1 ≠ p := ne_of_none q1 hp
    exact ⟨by rw [upd_ne nq]; exact q1, by rw [upd_ne nq]; exact q2, q3, q4⟩
/-- a new cell -/
theorem Rel.cell {p : Addr} {o : HO} {c : Cell} (R : Rel K mg G α O H) (hp : H p = none) (hno : ∀ b, o ≠ .own b)
    (hc : COk K mg G (α.push p) (upd H p o) p c) : Rel K mg G (α.push p) (O ++ [c]) (upd H p o) := by
  have gp : G p = none := R.ex.free hp
  have np : p ∉ α.as := fun z => by
    obtain ⟨u, e⟩ := R.liv p z
    rw [hp] at e
    cases e
  refine ⟨fun a u e => ?_, ?_, ?_, fun a ha => ?_, fun k a c' h1 h2 => ?_, fun q hq => ?_, R.tb.mono (fun _ _ _ _ _ g => g) (fun b u h _ _ => by rw [upd_ne (ne_of_none h hp)]; exact h) (fun b u h _ o => ⟨fun z => (List.mem_append.mp z).elim o.1 (fun z => ne_of_none h hp (by simpa using z)), o.2⟩)⟩
  · rw [upd_ne (ne_of_none e gp)]
    exact R.ex a u e
  · show (α.as ++ [p]).length = _
    rw [List.length_append, List.length_append, R.len]
    rfl
  · show (α.as ++ [p]).Nodup
    rw [List.nodup_append]
    refine ⟨R.nd, by simp, fun a ha b hb z => ?_⟩
    have : b = p := by simpa using hb
    subst this
    subst z
    exact np ha
  · rcases List.mem_append.mp ha with z | z
    · obtain ⟨u, e⟩ := R.liv a z
      exact ⟨u, by rw [upd_ne (ne_of_none e hp)]; exact e⟩
    · have : a = p := by simpa using z
      subst this
      exact ⟨o, upd_same⟩
  · have h1 : (α.as ++ [p])[k]? = some a := h1
    by_cases hk : k < α.as.length
    · rw [List.getElem?_append_left hk] at h1
      rw [List.getElem?_append_left (by rw [← R.len]; exact hk)] at h2
      obtain ⟨u, e⟩ := R.liv a (List.mem_of_getElem? h1)
      have ne : a ≠ p := ne_of_none e hp
      refine (R.at_ k a c' h1 h2).mono (Ex.refl _) (Pre.push) id (fun b hb z1 z2 => ?_) fun u z => by rw [upd_ne ne]; exact z
      have nb : b ≠ p := ne_of_none hb hp
      refine ⟨z1, fun z => ?_, by rw [upd_ne nb]; exact hb⟩
      rcases List.mem_append.mp z with z | z
      · exact z2 z
      · exact nb (by simpa using z)
    · have hk2 : k = α.as.length := by
        have := (List.getElem?_eq_some_iff.mp h1).1
        rw [List.length_append] at this
        simp at this
        omega
      subst hk2
      rw [List.getElem?_append_right (Nat.le_refl _), Nat.sub_self] at h1
      rw [List.getElem?_append_right (by rw [R.len]; exact Nat.le_refl _), R.len, Nat.sub_self] at h2
      cases h1
      cases h2
      exact hc
  · obtain ⟨q1, q2, q3, q4⟩ := R.hd q hq
    have nq : q.1 ≠ p := ne_of_none q1 hp
    refine ⟨by rw [upd_ne nq]; exact q1, q2, fun z => ?_, q4⟩
    rcases List.mem_append.mp z with z | z
    · exact q3 z
    · exact nq (by simpa using z)
theorem nodup_ne {α : List Addr} (nd : α.Nodup) {i j : Nat} {a b : Addr} (h1 : α[i]? = some a) (h2 : α[j]? = some b) (h : i ≠ j) : a ≠ b := fun e => by
  subst e
  obtain ⟨l1, e1⟩ := List.getElem?_eq_some_iff.mp h1
  obtain ⟨l2, e2⟩ := List.getElem?_eq_some_iff.mp h2
  exact h ((List.getElem_inj nd).mp (e1.trans e2.symm))
/-- a cell is written (not an instance's) -/
theorem Rel.write {k : Nat} {a : Addr} {o u : HO} {c c0 : Cell} (R : Rel K mg G α O H) (h1 : α.as[k]? = some a) (h2 : O[k]? = some c0) (h3 : H a = some u) (h4 : G a = none) (hu : ∀ b, u ≠ .own b) (hno : ∀ b, o ≠ .own b)
    (hc : COk K mg G α (upd H a o) a c) : Rel K mg G α (O.set k c) (upd H a o) := by
  refine ⟨fun b v e => ?_, by rw [List.length_set]; exact R.len, R.nd, fun b hb => ?_, fun j b c' q1 q2 => ?_, fun q hq => ?_, R.tb.mono (fun _ _ _ _ _ g => g) (fun b u h _ o => by rw [upd_ne (o.ne h1)]; exact h) (fun _ _ _ _ o => o)⟩
  · rw [upd_ne (ne_of_none e h4)]
    exact R.ex b v e
  · by_cases z : b = a
    · subst z
      exact ⟨o, upd_same⟩
    · obtain ⟨v, e⟩ := R.liv b hb
      exact ⟨v, by rw [upd_ne z]; exact e⟩
  · by_cases z : k = j
    · subst z
      rw [h1] at q1
      cases q1
      rw [List.getElem?_set_self (List.getElem?_eq_some_iff.mp h2).1] at q2
      cases q2
      exact hc
    · rw [List.getElem?_set_ne z] at q2
      have ne : b ≠ a := nodup_ne R.nd q1 h1 (Ne.symm z)
      refine (R.at_ j b c' q1 q2).mono (Ex.refl _) (Pre.refl _) id (fun x hx z1 z2 => ⟨z1, z2, ?_⟩) fun v z => by rw [upd_ne ne]; exact z
      have nx : x ≠ a := fun e => by
        rw [e, h3] at hx
        exact hu b (Option.some.inj hx)
      rw [upd_ne nx]
      exact hx
  · obtain ⟨q1, q2, q3, q4⟩ := R.hd q hq
    have nq : q.1 ≠ a := fun z => q3 (z ▸ List.mem_of_getElem? h1)
    exact ⟨by rw [upd_ne nq]; exact q1, q2, q3, q4⟩
/-- a list that will never change again -/
theorem Rel.freeze {k : Nat} {a : Addr} {vs : List V} {xs : List W} (R : Rel K mg G α O H) (h1 : α.as[k]? = some a) (h2 : O[k]? = some (.lst xs)) (h3 : H a = some (.lst vs)) (h4 : G a = none) : Rel K mg (upd G a (.lst vs)) α (O.set k .gone) H := by
  refine ⟨fun b v e => ?_, by rw [List.length_set]; exact R.len, R.nd, R.liv, fun j b c' q1 q2 => ?_, fun q hq => ?_, R.tb.mono (fun b u h _ o g => by rw [upd_ne (o.ne h1)]; exact g) (fun _ _ h _ _ => h) (fun _ _ _ _ o => o)⟩
  · by_cases z : b = a
    · subst z
      rw [upd_same] at e
      rw [← e]
      exact h3
    · rw [upd_ne z] at e
      exact R.ex b v e
  · by_cases z : k = j
    · subst z
      rw [List.getElem?_set_self (List.getElem?_eq_some_iff.mp h2).1] at q2
      cases q2
      trivial
    · rw [List.getElem?_set_ne z] at q2
      have ne : b ≠ a := nodup_ne R.nd q1 h1 (Ne.symm z)
      refine (R.at_ j b c' q1 q2).mono (Ex.new h4) (Pre.refl _) (fun z => by rw [upd_ne ne]; exact z) (fun x hx z1 z2 => ⟨?_, z2, hx⟩) fun v z => z
      have nx : x ≠ a := fun e => by
        rw [e, h3] at hx
        cases hx
      rw [upd_ne nx]
      exact z1
  · obtain ⟨q1, q2, q3, q4⟩ := R.hd q hq
    have nq : q.1 ≠ a := fun z => q3 (z ▸ List.mem_of_getElem? h1)
    exact ⟨q1, by rw [upd_ne nq]; exact q2, q3, q4⟩
/-- references of cells -/
def tiLt (n : Nat) : PyData ⊕ Nat → Bool
  | .inl _ => true
  | .inr j => decide (j < n)
def W.lt (n : Nat) : W → Bool
  | .c j => decide (j < n)
  | .t xs => xs.all (tiLt n)
  | _ => true
def Cell.lt (n : Nat) : Cell → Bool
  | .lst xs => xs.all (W.lt n)
  | .dic kvs => kvs.all fun p => p.2.lt n
  | .dct kvs => kvs.all fun p => p.2.lt n
  | .ldic _ _ kvs => kvs.all fun p => p.2.lt n
  | .ldct _ _ kvs => kvs.all fun p => p.2.lt n
  | .ins _ fs => fs.all fun p => p.2.lt n
  | .gone => true
def Clo (n : Nat) (O : Oh) : Bool := O.all (Cell.lt n)
theorem RiL.lt : ∀ {vs : List V} {xs : List (PyData ⊕ Nat)}, Paired (Ri K G α) vs xs → xs.all (tiLt α.as.length) = true
  | _, _, .nil => rfl
  | _, .inl x :: _, .cons h t => by rw [List.all_cons, RiL.lt t]; rfl
  | _, .inr k :: _, .cons h t => by
    obtain ⟨a, h1, _⟩ := h
    rw [List.all_cons, RiL.lt t, Bool.and_true]
    exact decide_eq_true (List.getElem?_eq_some_iff.mp h1).1
theorem Rv.lt {v : V} {w : W} (h : Rv K G α v w) : w.lt α.as.length = true := by
  cases w with
  | c k =>
    obtain ⟨a, h1, _⟩ := h
    exact decide_eq_true (List.getElem?_eq_some_iff.mp h1).1
  | t xs =>
    obtain ⟨a, vs, _, _, h⟩ := h
    exact RiL.lt h
  | _ => rfl
theorem RvL.lt : ∀ {vs : List V} {ws : List W}, RvL K G α vs ws → ws.all (W.lt α.as.length) = true
  | _, _, .nil => rfl
  | _, _, .cons h t => by rw [List.all_cons, h.lt, RvL.lt t]; rfl
theorem RK.lt {κ : Type} : ∀ {vs : List (κ × V)} {ws : List (κ × W)}, RK K G α vs ws → (ws.all fun p => p.2.lt α.as.length) = true
  | _, _, .nil => rfl
  | _, _, .cons h t => by rw [List.all_cons, h.2.lt, RK.lt t]; rfl
theorem Rel.clo (R : Rel K mg G α O H) : Clo O.length O = true := by
  unfold Clo
  rw [List.all_eq_true]
  intro c hc
  obtain ⟨k, hk, e⟩ := List.getElem_of_mem hc
  have hk' : k < α.as.length := by rw [R.len]; exact hk
  have z := R.at_ k α.as[k] c (List.getElem?_eq_getElem hk') (by rw [List.getElem?_eq_getElem hk, e])
  rw [← R.len]
  cases c with
  | lst xs => obtain ⟨_, vs, _, h⟩ := z; exact h.lt
  | dic xs => obtain ⟨_, vs, _, h⟩ := z; exact h.lt
  | dct xs => obtain ⟨_, vs, _, h⟩ := z; exact h.lt
  | ldic od es xs => obtain ⟨_, _, h⟩ := z; exact h.lt
  | ldct od es xs => obtain ⟨_, _, h⟩ := z; exact h.lt
  | ins C xs => obtain ⟨_, _, _, _, _, _, _, _, _, h⟩ := z; exact h.lt
  | gone => rfl
theorem RiL.cut {n : Nat} : ∀ {vs : List V} {xs : List (PyData ⊕ Nat)}, Paired (Ri K G α) vs xs → xs.all (tiLt n) = true → Paired (Ri K G (α.cut n)) vs xs
  | _, _, .nil, _ => .nil
  | _, .inl x :: _, .cons h t, l => by
    rw [List.all_cons, Bool.and_eq_true] at l
    exact .cons (show Ri K G (α.cut n) _ (.inl x) from h) (RiL.cut t l.2)
  | _, .inr k :: _, .cons h t, l => by
    rw [List.all_cons, Bool.and_eq_true] at l
    obtain ⟨a, h1, h2⟩ := h
    refine .cons (show Ri K G (α.cut n) _ (.inr k) from ⟨a, ?_, h2⟩) (RiL.cut t l.2)
    show (α.as.take n)[k]? = some a
    rw [List.getElem?_take, if_pos (of_decide_eq_true l.1)]
    exact h1
theorem Rv.cut {v : V} {w : W} {n : Nat} (h : Rv K G α v w) (l : w.lt n = true) : Rv K G (α.cut n) v w := by
  cases w with
  | d x => exact h
  | k ks => exact h
  | p ds => exact h
  | q ks x => exact h
  | o a d fs => exact h
  | t xs =>
    obtain ⟨a, vs, h1, h2, h3⟩ := h
    exact ⟨a, vs, h1, h2, RiL.cut h3 l⟩
  | c k =>
    obtain ⟨a, h1, h2⟩ := h
    refine ⟨a, ?_, h2⟩
    show (α.as.take n)[k]? = some a
    rw [List.getElem?_take, if_pos (of_decide_eq_true l)]
    exact h1
theorem RvL.cut {n : Nat} : ∀ {vs : List V} {ws : List W}, RvL K G α vs ws → ws.all (W.lt n) = true → RvL K G (α.cut n) vs ws
  | _, _, .nil, _ => .nil
  | _, _, .cons h t, l => by
    rw [List.all_cons, Bool.and_eq_true] at l
    exact .cons (h.cut l.1) (RvL.cut t l.2)
theorem RK.cut {κ : Type} {n : Nat} : ∀ {vs : List (κ × V)} {ws : List (κ × W)}, RK K G α vs ws → (ws.all fun p => p.2.lt n) = true → RK K G (α.cut n) vs ws
  | _, _, .nil, _ => .nil
  | _, _, .cons h t, l => by
    rw [List.all_cons, Bool.and_eq_true] at l
    exact .cons ⟨h.1, h.2.cut l.1⟩ (RK.cut t l.2)
/-- the last cells are forgotten -/
theorem Rel.cut {n : Nat} (R : Rel K mg G α O H) (l : Clo n (O.take n) = true) : Rel K mg G (α.cut n) (O.take n) H := by
  refine ⟨R.ex, by show (α.as.take n).length = _; rw [List.length_take, List.length_take, R.len], R.nd.sublist (List.take_sublist _ _), fun a ha => R.liv a (List.mem_of_mem_take ha), fun k a c h1 h2 => ?_, fun q hq => ?_, R.tb.mono (fun _ _ _ _ _ g => g) (fun _ _ h _ _ => h) (fun _ _ _ _ o => ⟨fun z => o.1 (List.mem_of_mem_take z), o.2⟩)⟩
  have hc : c.lt n = true := by
    unfold Clo at l
    rw [List.all_eq_true] at l
    exact l c (List.mem_of_getElem? h2)
  have h1 : (α.as.take n)[k]? = some a := h1
  rw [List.getElem?_take] at h1 h2
  have hk : k < n := by
    by_cases z : k < n
    · exact z
    · rw [if_neg z] at h1
      cases h1
  rw [if_pos hk] at h1 h2
  have z := R.at_ k a c h1 h2
  cases c with
  | lst xs => obtain ⟨h0, vs, q, h⟩ := z; exact ⟨h0, vs, q, h.cut hc⟩
  | dic xs => obtain ⟨h0, vs, q, h⟩ := z; exact ⟨h0, vs, q, h.cut hc⟩
  | dct xs => obtain ⟨h0, vs, q, h⟩ := z; exact ⟨h0, vs, q, h.cut hc⟩
  | ldic od es xs => obtain ⟨h0, q, h⟩ := z; exact ⟨h0, q, h.cut hc⟩
  | ldct od es xs => obtain ⟨h0, q, h⟩ := z; exact ⟨h0, q, h.cut hc⟩
  | ins C xs => obtain ⟨h0, Ca, dx, es, q1, q2, q3, q4, q5, h⟩ := z; exact ⟨h0, Ca, dx, es, q1, q2, q3, q4, fun m => q5 (List.mem_of_mem_take m), h.cut hc⟩
  | gone => trivial
  · obtain ⟨q1, q2, q3, q4⟩ := R.hd q hq
    exact ⟨q1, q2, fun z => q3 (List.mem_of_mem_take z), q4⟩
/-! what is hidden -/
def Al.hide (α : Al) (p : Addr) (o : HO) : Al := ⟨α.as, (p, o) :: α.hid⟩
theorem RvL.hide {p : Addr} {o : HO} {vs : List V} {ws : List W} (h : RvL K G α vs ws) : RvL K G (α.hide p o) vs ws := by
  induction h with
  | nil => exact .nil
  | cons r _ ih => exact .cons (by
      rename_i v w _ _ _
      cases w <;> exact r) ih
theorem RiL.to {β : Al} (hb : β.as = α.as) : ∀ {vs : List V} {xs : List (PyData ⊕ Nat)}, Paired (Ri K G α) vs xs → Paired (Ri K G β) vs xs
  | _, _, .nil => .nil
  | _, .inl x :: _, .cons h t => .cons (show Ri K G β _ (.inl x) from h) (RiL.to hb t)
  | _, .inr k :: _, .cons h t => .cons (show Ri K G β _ (.inr k) from by obtain ⟨a, h1, h2⟩ := h; exact ⟨a, by rw [hb]; exact h1, h2⟩) (RiL.to hb t)
theorem COk.to {a : Addr} {c : Cell} {β : Al} (hb : β.as = α.as) (hH : ∀ o, H a = some o → H' a = some o) (hd : ∀ b, H b = some (.own a) → H' b = some (.own a)) (h : COk K mg G α H a c) : COk K mg G β H' a c := by
  have rv : ∀ {v : V} {w : W}, Rv K G α v w → Rv K G β v w := fun {v w} r => by
    cases w with
    | c k => obtain ⟨a, h1, h2⟩ := r; exact ⟨a, by rw [hb]; exact h1, h2⟩
    | t xs => obtain ⟨a, vs, h1, h2, h3⟩ := r; exact ⟨a, vs, h1, h2, RiL.to hb h3⟩
    | _ => exact r
  have rl : ∀ {vs : List V} {ws : List W}, RvL K G α vs ws → RvL K G β vs ws := fun {vs ws} r => by
    induction r with
    | nil => exact .nil
    | cons r _ ih => exact .cons (rv r) ih
  have rk : ∀ {κ : Type} {vs : List (κ × V)} {ws : List (κ × W)}, RK K G α vs ws → RK K G β vs ws := fun {κ vs ws} r => by
    induction r with
    | nil => exact .nil
    | cons r _ ih => exact .cons ⟨r.1, rv r.2⟩ ih
  cases c with
  | lst xs => obtain ⟨h0, vs, q, h⟩ := h; exact ⟨h0, vs, hH _ q, rl h⟩
  | dic xs => obtain ⟨h0, vs, q, h⟩ := h; exact ⟨h0, vs, hH _ q, rk h⟩
  | dct xs => obtain ⟨h0, vs, q, h⟩ := h; exact ⟨h0, vs, hH _ q, rk h⟩
  | ldic od es xs => obtain ⟨h0, q, h⟩ := h; exact ⟨h0, hH _ q, rk h⟩
  | ldct od es xs => obtain ⟨h0, q, h⟩ := h; exact ⟨h0, hH _ q, rk h⟩
  | ins C xs => obtain ⟨h0, Ca, dx, es, q1, q2, q3, q4, q5, h⟩ := h; exact ⟨h0, Ca, dx, es, q1, hH _ q2, hd _ q3, q4, by rw [hb]; exact q5, rk h⟩
  | gone => trivial
/-- a new thing, hidden -/
theorem Rel.hidden {p : Addr} {o : HO} (R : Rel K mg G α O H) (hp : H p = none) (hno : NoOT o) : Rel K mg G (α.hide p o) O (upd H p o) := by
  have gp : G p = none := R.ex.free hp
  refine ⟨fun a u e => ?_, R.len, R.nd, fun a ha => ?_, fun k a c h1 h2 => ?_, fun q hq => ?_, R.tb.mono (fun _ _ _ _ _ g => g) (fun b u h _ _ => by rw [upd_ne (ne_of_none h hp)]; exact h) (fun b u h _ o => ⟨o.1, fun q hq => (List.mem_cons.mp hq).elim (fun e => by rw [e]; exact (ne_of_none h hp).symm) (o.2 q)⟩)⟩
  · rw [upd_ne (ne_of_none e gp)]
    exact R.ex a u e
  · obtain ⟨u, e⟩ := R.liv a ha
    exact ⟨u, by rw [upd_ne (ne_of_none e hp)]; exact e⟩
  · obtain ⟨u, e⟩ := R.liv a (List.mem_of_getElem? h1)
    have ne : a ≠ p := ne_of_none e hp
    exact (R.at_ k a c h1 h2).to rfl (fun o z => by rw [upd_ne ne]; exact z) fun b z => by rw [upd_ne (ne_of_none z hp)]; exact z
  · rcases List.mem_cons.mp hq with e | hq
    · subst e
      refine ⟨upd_same, gp, fun z => ?_, hno⟩
      obtain ⟨u, e⟩ := R.liv p z
      rw [hp] at e
      cases e
    · obtain ⟨q1, q2, q3, q4⟩ := R.hd q hq
      have nq : q.1 ≠ p := ne_of_none q1 hp
      exact ⟨by rw [upd_ne nq]; exact q1, q2, q3, q4⟩
/-- the hidden thing is written -/
theorem Rel.rehide {p : Addr} {o o' : HO} {η : List (Addr × HO)} (R : Rel K mg G ⟨α.as, (p, o) :: η⟩ O H) (hno : NoOT o') (hη : ∀ q ∈ η, q.1 ≠ p) : Rel K mg G ⟨α.as, (p, o') :: η⟩ O (upd H p o') := by
  obtain ⟨p1, p2, p3, p4⟩ := R.hd (p, o) List.mem_cons_self
  have p1 : H p = some o := p1
  have p2 : G p = none := p2
  have p3 : p ∉ α.as := p3
  refine ⟨fun a u e => ?_, R.len, R.nd, fun a ha => ?_, fun k a c h1 h2 => ?_, fun q hq => ?_, R.tb.mono (fun _ _ _ _ _ g => g) (fun b u h _ f => by rw [upd_ne (fun z => f.2 _ List.mem_cons_self z.symm)]; exact h) (fun b u h _ f => ⟨f.1, fun q hq => (List.mem_cons.mp hq).elim (fun e => by rw [e]; exact f.2 (p, o) List.mem_cons_self) (fun hq => f.2 q (List.mem_cons_of_mem _ hq))⟩)⟩
  · rw [upd_ne (ne_of_none e p2)]
    exact R.ex a u e
  · obtain ⟨u, e⟩ := R.liv a ha
    have ne : a ≠ p := fun z => p3 (z ▸ ha)
    exact ⟨u, by rw [upd_ne ne]; exact e⟩
  · have ne : a ≠ p := fun z => p3 (z ▸ List.mem_of_getElem? h1)
    refine (R.at_ k a c h1 h2).to rfl (fun o z => by rw [upd_ne ne]; exact z) fun b z => ?_
    have nb : b ≠ p := fun e => by
      rw [e, p1] at z
      exact p4.1 a (Option.some.inj z)
    rw [upd_ne nb]
    exact z
  · rcases List.mem_cons.mp hq with e | hq
    · subst e
      exact ⟨upd_same, p2, p3, hno⟩
    · obtain ⟨q1, q2, q3, q4⟩ := R.hd q (List.mem_cons_of_mem _ hq)
      exact ⟨by rw [upd_ne (hη q hq)]; exact q1, q2, q3, q4⟩
/-- the hidden thing comes to light and never changes again -/
theorem Rel.show {p : Addr} {o : HO} {η : List (Addr × HO)} (R : Rel K mg G ⟨α.as, (p, o) :: η⟩ O H) (hη : ∀ q ∈ η, q.1 ≠ p) : Rel K mg (upd G p o) ⟨α.as, η⟩ O H := by
  obtain ⟨p1, p2, p3, p4⟩ := R.hd (p, o) List.mem_cons_self
  have p1 : H p = some o := p1
  have p2 : G p = none := p2
  have p3 : p ∉ α.as := p3
  refine ⟨fun a u e => ?_, R.len, R.nd, R.liv, fun k a c h1 h2 => ?_, fun q hq => ?_, R.tb.mono (fun b u h _ f g => by rw [upd_ne (fun z => f.2 _ List.mem_cons_self z.symm)]; exact g) (fun _ _ h _ _ => h) (fun b u h _ f => ⟨f.1, fun q hq => f.2 q (List.mem_cons_of_mem _ hq)⟩)⟩
  · by_cases z : a = p
    · subst z
      rw [upd_same] at e
      rw [← e]
      exact p1
    · rw [upd_ne z] at e
      exact R.ex a u e
  · have ne : a ≠ p := fun z => p3 (z ▸ List.mem_of_getElem? h1)
    have z := (R.at_ k a c h1 h2).to (β := ⟨α.as, η⟩) (H' := H) rfl (fun _ z => z) fun _ z => z
    refine z.mono (Ex.new p2) (Pre.refl _) (fun z => by rw [upd_ne ne]; exact z) (fun b hb z1 z2 => ?_) fun _ z => z
    have nb : b ≠ p := fun e => by
      rw [e, p1] at hb
      exact p4.1 a (Option.some.inj hb)
    exact ⟨by rw [upd_ne nb]; exact z1, z2, hb⟩
  · obtain ⟨q1, q2, q3, q4⟩ := R.hd q (List.mem_cons_of_mem _ hq)
    exact ⟨q1, by rw [upd_ne (hη q hq)]; exact q2, q3, q4⟩
/-- a tuple that stands is known from now on -/
theorem Rel.know {q : Addr} {xs : List V} (R : Rel K mg G α O H) (hq : H q = some (.tup xs)) : ∃ G', Ex G G' ∧ Rel K mg G' α O H ∧ G' q = some (.tup xs) := by
  cases gq : G q with
  | some u =>
    have := R.ex q u gq
    rw [hq] at this
    cases this
    exact ⟨G, Ex.refl _, R, gq⟩
  | none =>
    refine ⟨upd G q (.tup xs), Ex.new gq, ⟨fun a u e => ?_, R.len, R.nd, R.liv, fun k a c h1 h2 => ?_, fun p hp => ?_, R.tb.mono (fun b u h nt _ g => by rw [upd_ne (fun z => by rw [z, hq] at h; cases h; exact nt.tup)]; exact g) (fun _ _ h _ _ => h) (fun _ _ _ _ o => o)⟩, upd_same⟩
    · by_cases z : a = q
      · subst z
        rw [upd_same] at e
        rw [← e]
        exact hq
      · rw [upd_ne z] at e
        exact R.ex a u e
    · have w := R.at_ k a c h1 h2
      have up : ∀ {b : Addr}, b ≠ q → G b = none → (upd G q (.tup xs)) b = none := fun ne e => by rw [upd_ne ne]; exact e
      cases c with
      | lst ys => obtain ⟨h0, vs, e, h⟩ := w; exact ⟨up (fun z => by rw [z, hq] at e; cases e) h0, vs, e, h.mono (Ex.new gq) (Pre.refl _)⟩
      | dic ys => obtain ⟨h0, vs, e, h⟩ := w; exact ⟨up (fun z => by rw [z, hq] at e; cases e) h0, vs, e, h.mono (Ex.new gq) (Pre.refl _)⟩
      | dct ys => obtain ⟨h0, vs, e, h⟩ := w; exact ⟨up (fun z => by rw [z, hq] at e; cases e) h0, vs, e, h.mono (Ex.new gq) (Pre.refl _)⟩
      | ldic od es ys => obtain ⟨h0, e, h⟩ := w; exact ⟨up (fun z => by rw [z, hq] at e; cases e) h0, e, h.mono (Ex.new gq) (Pre.refl _)⟩
      | ldct od es ys => obtain ⟨h0, e, h⟩ := w; exact ⟨up (fun z => by rw [z, hq] at e; cases e) h0, e, h.mono (Ex.new gq) (Pre.refl _)⟩
      | ins C ys => obtain ⟨h0, Ca, dx, es, q1, q2, q3, q4, q5, h⟩ := w; exact ⟨up (fun z => by rw [z, hq] at q2; cases q2) h0, Ca, dx, es, q1, q2, q3, up (fun z => by rw [z, hq] at q3; cases q3) q4, q5, h.mono (Ex.new gq) (Pre.refl _)⟩
      | gone => trivial
    · obtain ⟨h1, h2, h3, h4⟩ := R.hd p hp
      refine ⟨h1, ?_, h3, h4⟩
      rw [upd_ne (fun z => by rw [z, hq] at h1; exact h4.2 xs (Option.some.inj h1).symm)]
      exact h2
end
end Dl
namespace Dl
open PySem PySem.Spec PyProof.Rows L2
variable [TabsC]
theorem pe_imp {X : Cx} {e : Expr} {t t' : TE} (i : ∀ σ H Q, t' σ H Q → t σ H Q) (h : PE X e t) : PE X e t' := ⟨fun pins s σ H Q I q => h.run pins s σ H Q I (i _ _ _ q)⟩
theorem pt_imp {X : Cx} {e : Expr} {t t' : TT} (i : ∀ σ H Q, t' σ H Q → t σ H Q) (h : PT X e t) : PT X e t' := ⟨fun pins s σ H Q I q => h.run pins s σ H Q I (i _ _ _ q)⟩
theorem pw_imp {X : Cx} {e : Expr} {t t' : TT} (i : ∀ σ H Q, t' σ H Q → t σ H Q) (h : PW X e t) : PW X e t' := ⟨fun wh pins s σ H Q I q => h.run wh pins s σ H Q I (i _ _ _ q)⟩
theorem pa_imp {X : Cx} {e : List Expr} {t t' : TA} (i : ∀ σ H Q, t' σ H Q → t σ H Q) (h : PA X e t) : PA X e t' := ⟨fun p pins s σ H Q I q => h.run p pins s σ H Q I (i _ _ _ q)⟩
theorem ps_imp {X : Cx} {st : Stmt} {t t' : TS} (i : ∀ D σ H, t' D σ H → t D σ H) (h : PS X st t) : PS X st t' := ⟨fun pins s σ H D I q => h.run pins s σ H D I (i _ _ _ q)⟩
theorem pss_imp {X : Cx} {st : List Stmt} {t t' : TS} (i : ∀ D σ H, t' D σ H → t D σ H) (h : PSs X st t) : PSs X st t' := ⟨fun pins s σ H D I q => h.run pins s σ H D I (i _ _ _ q)⟩
section
variable (K : Fg) (mg : Str → Option Value)
def Post (G : Hp) (α : Al) (R : DK) (Q : VK) : Prop := ∀ r O', R r O' → ∀ v G' α' H', Ex G G' → Pre α α' → Rel K mg G' α' O' H' → Rv K G' α' v r → Q v H'
def PostT (G : Hp) (α : Al) (R : Bool → Oh → Prop) (Q : Bool → Hp → Prop) : Prop := ∀ b O', R b O' → ∀ G' α' H', Ex G G' → Pre α α' → Rel K mg G' α' O' H' → Q b H'
def PostA (G : Hp) (α : Al) (R : List W → Oh → Prop) (Q : List V → Hp → Prop) : Prop := ∀ r O', R r O' → ∀ v G' α' H', Ex G G' → Pre α α' → Rel K mg G' α' O' H' → RvL K G' α' v r → Q v H'
def PostS (G : Hp) (α : Al) (R : Gm → Oh → Prop) (Q : L2.St → Hp → Prop) : Prop := ∀ Γ' O', R Γ' O' → ∀ σ' G' α' H', Ex G G' → Pre α α' → Rel K mg G' α' O' H' → Sl K G' α' Γ' σ' → Q σ' H'
def ExOk (G : Hp) (ex : Exn) (cls : Value) (d : Option Addr) : Prop :=
  ∃ C, mg ex.cls = some (.ref C) ∧ cls = .ref C ∧ (ex.fs = [] → d = none) ∧ (ex.fs ≠ [] → ∃ dd vs, d = some dd ∧ G dd = some (.xd vs) ∧ Paired (fun (p : Str × V) (q : Str × PyData) => p.1 = q.1 ∧ Rp K G p.2 q.2) vs ex.fs)
def XPost (G : Hp) (α : Al) (xe : DX) (Wx : WX) : Prop := ∀ ex Γ' O', xe ex Γ' O' → ∀ cls d σ' G' α' H', Ex G G' → Pre α α' → Rel K mg G' α' O' H' → Sl K G' α' Γ' σ' → ExOk K mg G' ex cls d → Wx cls d σ' H'
def XPostF (G : Hp) (α : Al) (xe : Exn → Oh → Prop) (E : XK) : Prop := ∀ ex O', xe ex O' → ∀ cls d G' α' H', Ex G G' → Pre α α' → Rel K mg G' α' O' H' → ExOk K mg G' ex cls d → E cls d H'
structure PostD (G : Hp) (α : Al) (DD : DEnds) (D : Ends) : Prop where
  nx : PostS K mg G α DD.nx D.nx
  rt : Post K mg G α DD.rt D.rt
  bk : PostS K mg G α DD.bk D.bk
  ct : PostS K mg G α DD.ct D.ct
def liftE (Wx : WX) (w : DEx) : TE := fun σ H Q => ∃ G α Γ O R xe, Sl K G α Γ σ ∧ Rel K mg G α O H ∧ w Γ O R xe ∧ Post K mg G α R Q ∧ XPost K mg G α xe Wx
def liftT (Wx : WX) (w : DT) : TT := fun σ H Q => ∃ G α Γ O R xe, Sl K G α Γ σ ∧ Rel K mg G α O H ∧ w Γ O R xe ∧ PostT K mg G α R Q ∧ XPost K mg G α xe Wx
def liftA (Wx : WX) (w : DA) : TA := fun σ H Q => ∃ G α Γ O R xe, Sl K G α Γ σ ∧ Rel K mg G α O H ∧ w Γ O R xe ∧ PostA K mg G α R Q ∧ XPost K mg G α xe Wx
def liftS (Wx : WX) (w : DSt) : TS := fun D σ H => ∃ G α Γ O DD xe, Sl K G α Γ σ ∧ Rel K mg G α O H ∧ w DD xe Γ O ∧ PostD K mg G α DD D ∧ XPost K mg G α xe Wx
def liftF (w : DFn) : Sp := fun vs H Q E => ∃ G α ws O R xe, RvL K G α vs ws ∧ Rel K mg G α O H ∧ w ws O R xe ∧ Post K mg G α R Q ∧ XPostF K mg G α xe E
end
section
variable {K : Fg} {mg : Str → Option Value} {G G' : Hp} {α α' : Al}
theorem Post.mono {R : DK} {Q : VK} (e : Ex G G') (p : Pre α α') (h : Post K mg G α R Q) : Post K mg G' α' R Q := fun r O' q v G2 α2 H' e2 p2 => h r O' q v G2 α2 H' (e.trans e2) (p.trans p2)
theorem PostT.mono {R : Bool → Oh → Prop} {Q : Bool → Hp → Prop} (e : Ex G G') (p : Pre α α') (h : PostT K mg G α R Q) : PostT K mg G' α' R Q := fun r O' q G2 α2 H' e2 p2 => h r O' q G2 α2 H' (e.trans e2) (p.trans p2)
theorem PostA.mono {R : List W → Oh → Prop} {Q : List V → Hp → Prop} (e : Ex G G') (p : Pre α α') (h : PostA K mg G α R Q) : PostA K mg G' α' R Q := fun r O' q v G2 α2 H' e2 p2 => h r O' q v G2 α2 H' (e.trans e2) (p.trans p2)
theorem PostS.mono {R : Gm → Oh → Prop} {Q : L2.St → Hp → Prop} (e : Ex G G') (p : Pre α α') (h : PostS K mg G α R Q) : PostS K mg G' α' R Q := fun r O' q v G2 α2 H' e2 p2 => h r O' q v G2 α2 H' (e.trans e2) (p.trans p2)
theorem XPost.mono {xe : DX} {Wx : WX} (e : Ex G G') (p : Pre α α') (h : XPost K mg G α xe Wx) : XPost K mg G' α' xe Wx := fun ex Γ' O' q cls d σ' G2 α2 H' e2 p2 => h ex Γ' O' q cls d σ' G2 α2 H' (e.trans e2) (p.trans p2)
theorem XPostF.mono {xe : Exn → Oh → Prop} {E : XK} (e : Ex G G') (p : Pre α α') (h : XPostF K mg G α xe E) : XPostF K mg G' α' xe E := fun ex O' q cls d G2 α2 H' e2 p2 => h ex O' q cls d G2 α2 H' (e.trans e2) (p.trans p2)
theorem PostD.mono {DD : DEnds} {D : Ends} (e : Ex G G') (p : Pre α α') (h : PostD K mg G α DD D) : PostD K mg G' α' DD D := ⟨h.nx.mono e p, h.rt.mono e p, h.bk.mono e p, h.ct.mono e p⟩
theorem Post.here {R : DK} {Q : VK} {r : W} {O : Oh} {v : V} {H : Hp} (h : Post K mg G α R Q) (q : R r O) (R' : Rel K mg G α O H) (rv : Rv K G α v r) : Q v H := h r O q v G α H (Ex.refl _) (Pre.refl _) R' rv
theorem PostT.here {R : Bool → Oh → Prop} {Q : Bool → Hp → Prop} {b : Bool} {O : Oh} {H : Hp} (h : PostT K mg G α R Q) (q : R b O) (R' : Rel K mg G α O H) : Q b H := h b O q G α H (Ex.refl _) (Pre.refl _) R'
theorem PostS.here {R : Gm → Oh → Prop} {Q : L2.St → Hp → Prop} {Γ : Gm} {O : Oh} {σ : L2.St} {H : Hp} (h : PostS K mg G α R Q) (q : R Γ O) (R' : Rel K mg G α O H) (s : Sl K G α Γ σ) : Q σ H := h Γ O q σ G α H (Ex.refl _) (Pre.refl _) R' s
/-- a new thing that never changes is the answer -/
theorem Post.lay {R : DK} {Q : VK} {x : PyData} {O : Oh} {H : Hp} {p : Addr} {o : HO} (h : Post K mg G α R Q) (q : R (.d x) O) (R' : Rel K mg G α O H) (hp : H p = none) (rv : Rp K (upd G p o) (.ref p) x) : Q (.ref p) (upd H p o) :=
  h _ O q _ _ α _ (Ex.new (R'.ex.free hp)) (Pre.refl _) (R'.lay hp) rv
end
theorem takesN0 {X : Cx} : L2N.Takes X (fun _ _ _ _ => False) := fun _ _ x => by
  obtain ⟨_, _, _, _, _, _, _, _, _, _, _, _, _, _, _, _, z⟩ := x
  exact z.elim
/-- what holds of a place in the text -/
structure Good (X : Cx) (Wx : WX) (k : Nat) : Prop where
  tk : L2N.Takes X Wx
  ps : PassesOwn (model X.prog X.w) X.A X.env X.xe
  rm : Room k X.A
  calm : X.calm = true
  nd : X.N.Nodup
section
variable {X : Cx} {Wx : WX} {k : Nat}
def DE (X : Cx) (Wx : WX) (e : Expr) (w : DEx) : Prop := PE X e (liftE X.K X.mg Wx w)
def DTt (X : Cx) (Wx : WX) (e : Expr) (w : DT) : Prop := PT X e (liftT X.K X.mg Wx w)
def DW (X : Cx) (Wx : WX) (e : Expr) (w : DT) : Prop := PW X e (liftT X.K X.mg Wx w)
def DAs (X : Cx) (Wx : WX) (es : List Expr) (w : DA) : Prop := PA X es (liftA X.K X.mg Wx w)
def DS (X : Cx) (Wx : WX) (st : Stmt) (w : DSt) : Prop := PS X st (liftS X.K X.mg Wx w)
def DSs (X : Cx) (Wx : WX) (st : List Stmt) (w : DSt) : Prop := PSs X st (liftS X.K X.mg Wx w)
/-! #### names, constants -/
def dVar (i : Nat) : DEx := fun Γ O R _ => match Γ[i]? with
  | some (some w) => R w O
  | _ => False
theorem de_var (i : Nat) {x : Str} {pos : Pos} (hN : X.N[i]? = some x := by rfl) (hv : Vis X.env.scope x := by first | exact Or.inl rfl | exact Or.inr (Or.inl rfl) | exact Or.inr (Or.inr rfl)) (hd : (x == ("__debug__" : Str)) = false := by decide)
    (hcd : (x == ("__classdict__" : Str)) = false := by decide) : DE X Wx (.Name x pos) (dVar i) := by
  refine pe_imp (fun σ H Q ⟨G, α, Γ, O, R, xe, sl, rel, h, p, _⟩ => ?_) (pv i hN hv hd hcd)
  unfold dVar at h
  split at h
  · next w e =>
    obtain ⟨v, e', r⟩ := sl.at_ i w e
    exact ⟨v, e', p.here h rel r⟩
  · exact h.elim
def dC (x : PyData) : DEx := fun _ O R _ => R (.d x) O
theorem de_c {e : Expr} {v : V} {x : PyData} (h : PE X e (tC v)) (r : ∀ G, Rp X.K G v x) : DE X Wx e (dC x) :=
  pe_imp (fun σ H Q ⟨G, α, Γ, O, R, xe, sl, rel, h, p, _⟩ => p.here h rel (r G)) h
theorem de_int {i : Int} {j : Nat} {pos : Pos} : DE X Wx (.Constant (.int i) j pos) (dC (.int i)) := de_c pe_int fun _ => .int _
theorem de_str {x : Str} {j : Nat} {pos : Pos} (h : PyData.strOk x = true := by decide +kernel) : DE X Wx (.Constant (.str x) j pos) (dC (.str x)) := de_c pe_str fun _ => .str _ h
theorem de_bl {b : Bool} {j : Nat} {pos : Pos} : DE X Wx (.Constant (.bool b) j pos) (dC (.bool b)) := de_c pe_bl fun _ => .bl _
theorem de_non {j : Nat} {pos : Pos} : DE X Wx (.Constant .none j pos) (dC .none) := de_c pe_non fun _ => .non
/-! #### two expressions, one after the other -/
abbrev D2 := W → W → Oh → DK → Prop
def OpS (K : Fg) (mg : Str → Option Value) (f : D2) (r : R2) : Prop := ∀ G α O H x y u v R Q, Rel K mg G α O H → Rv K G α u x → Rv K G α v y → f x y O R → Post K mg G α R Q → r u v H Q
def dOp (f : D2) (wa wb : DEx) : DEx := fun Γ O R xe => wa Γ O (fun x O1 => wb Γ O1 (fun y O2 => f x y O2 R) xe) xe
theorem lift_op {K : Fg} {mg : Str → Option Value} {f : D2} {r : R2} {wa wb : DEx} (hs : OpS K mg f r) {σ : L2.St} {H : Hp} {Q : VK} (h : liftE K mg Wx (dOp f wa wb) σ H Q) : tOp r (liftE K mg Wx wa) (liftE K mg Wx wb) σ H Q := by
  obtain ⟨G, α, Γ, O, R, xe, sl, rel, h, p, xp⟩ := h
  refine ⟨G, α, Γ, O, _, xe, sl, rel, h, fun x O1 h1 u G1 α1 H1 e1 p1 rel1 r1 => ?_, xp⟩
  refine ⟨G1, α1, Γ, O1, _, xe, sl.mono e1 p1, rel1, h1, fun y O2 h2 v G2 α2 H2 e2 p2 rel2 r2 => ?_, xp.mono e1 p1⟩
  exact hs G2 α2 O2 H2 x y u v R Q rel2 (r1.mono e2 p2) r2 h2 (p.mono (e1.trans e2) (p1.trans p2))
variable {a b c : Expr} {wa wb wc : DEx} {pos p2 : Pos}
theorem de_op {op : Operator} {f : D2} {r : R2} (ho : OpR X (binaryOp op) r) (hs : OpS X.K X.mg f r) (ha : DE X Wx a wa) (hb : DE X Wx b wb) : DE X Wx (.BinOp a op b pos) (dOp f wa wb) := pe_imp (fun _ _ _ h => lift_op hs h) (pe_op ho ha hb)
theorem de_cmp {op : CmpOp} {f : D2} {r : R2} (ho : OpR X (compareOp op) r) (hs : OpS X.K X.mg f r) (ha : DE X Wx a wa) (hb : DE X Wx b wb) (hm : behindInMarks op b = false := by first | exact nomark _ | rfl) : DE X Wx (.Compare a [op] [b] pos) (dOp f wa wb) :=
  pe_imp (fun _ _ _ h => lift_op hs h) (pe_cmpR ho ha hb hm)
def dB (w : DEx) : DT := fun Γ O R xe => w Γ O (fun r O' => match r with
  | .d (.bool b) => R b O'
  | _ => False) xe
theorem lift_B {K : Fg} {mg : Str → Option Value} {w : DEx} {σ : L2.St} {H : Hp} {Q : Bool → Hp → Prop} (h : liftT K mg Wx (dB w) σ H Q) : liftE K mg Wx w σ H (fun x H1 => ∃ b, x = .bl b ∧ Q b H1) := by
  obtain ⟨G, α, Γ, O, R, xe, sl, rel, h, p, xp⟩ := h
  refine ⟨G, α, Γ, O, _, xe, sl, rel, h, fun x O1 h1 u G1 α1 H1 e1 p1 rel1 r1 => ?_, xp⟩
  try dsimp only at h1
  try dsimp only
  split at h1
  · next b =>
    cases r1
    exact ⟨b, rfl, p _ _ h1 _ _ _ e1 p1 rel1⟩
  · exact h1.elim
theorem dt_cmp {op : CmpOp} {f : D2} {r : R2} (ho : OpR X (compareOp op) r) (hs : OpS X.K X.mg f r) (ha : DE X Wx a wa) (hb : DE X Wx b wb) (hm : behindInMarks op b = false := by first | exact nomark _ | rfl) : DTt X Wx (.Compare a [op] [b] pos) (dB (dOp f wa wb)) := by
  refine pt_imp (fun σ H Q h => ?_) (pt_cmpR ho ha hb hm)
  exact lift_op hs (lift_B h)
theorem dt_val (h : DE X Wx a wa) (he : ∀ whole, isTrue a X.env whole = (do let v ← whole; standAt a.pos; holding [v] (truthy v)) := by intro _; rfl) : DTt X Wx a (dB wa) :=
  pt_imp (fun σ H Q h => lift_B h) (pt_val h he)
/-! #### tests -/
variable {tA tB tC' : DT} {rest : List Expr}
def dAnd (t u : DT) : DT := fun Γ O R xe => t Γ O (fun b O1 => if b = true then u Γ O1 R xe else R false O1) xe
def dOr (t u : DT) : DT := fun Γ O R xe => t Γ O (fun b O1 => if b = true then R true O1 else u Γ O1 R xe) xe
def dNot (t : DT) : DT := fun Γ O R xe => t Γ O (fun b O1 => R (!b) O1) xe
theorem dw_and1 (h : DTt X Wx a tA) : DW X Wx (.BoolOp .And [a] pos) tA := pw_and1 h
theorem dw_or1 (h : DTt X Wx a tA) : DW X Wx (.BoolOp .Or [a] pos) tA := pw_or1 h
theorem dw_and (h : DTt X Wx a tA) (hb : DW X Wx (.BoolOp .And (b :: rest) pos) tB) : DW X Wx (.BoolOp .And (a :: b :: rest) pos) (dAnd tA tB) := by
  refine pw_imp (fun σ H Q ⟨G, α, Γ, O, R, xe, sl, rel, h, p, xp⟩ => ?_) (pw_and h hb)
  refine ⟨G, α, Γ, O, _, xe, sl, rel, h, fun x O1 h1 G1 α1 H1 e1 p1 rel1 => ?_, xp⟩
  try dsimp only at h1
  try dsimp only
  split at h1
  · next c =>
    rw [if_pos c]
    exact ⟨G1, α1, Γ, O1, R, xe, sl.mono e1 p1, rel1, h1, p.mono e1 p1, xp.mono e1 p1⟩
  · next c =>
    rw [if_neg c]
    exact p _ _ h1 _ _ _ e1 p1 rel1
theorem dw_or (h : DTt X Wx a tA) (hb : DW X Wx (.BoolOp .Or (b :: rest) pos) tB) : DW X Wx (.BoolOp .Or (a :: b :: rest) pos) (dOr tA tB) := by
  refine pw_imp (fun σ H Q ⟨G, α, Γ, O, R, xe, sl, rel, h, p, xp⟩ => ?_) (pw_or h hb)
  refine ⟨G, α, Γ, O, _, xe, sl, rel, h, fun x O1 h1 G1 α1 H1 e1 p1 rel1 => ?_, xp⟩
  try dsimp only at h1
  try dsimp only
  split at h1
  · next c =>
    rw [if_pos c]
    exact p _ _ h1 _ _ _ e1 p1 rel1
  · next c =>
    rw [if_neg c]
    exact ⟨G1, α1, Γ, O1, R, xe, sl.mono e1 p1, rel1, h1, p.mono e1 p1, xp.mono e1 p1⟩
theorem DW.t (h : DW X Wx a tA) : DTt X Wx a tA := PW.pt h
theorem dt_not (h : DTt X Wx a tA) : DTt X Wx (.UnaryOp .Not a pos) (dNot tA) := by
  refine pt_imp (fun σ H Q ⟨G, α, Γ, O, R, xe, sl, rel, h, p, xp⟩ => ?_) (pt_not h)
  exact ⟨G, α, Γ, O, _, xe, sl, rel, h, fun x O1 h1 G1 α1 H1 e1 p1 rel1 => p _ _ h1 _ _ _ e1 p1 rel1, xp⟩
/-! .. as values -/
def dAndV (wa wb : DEx) : DEx := fun Γ O R xe => wa Γ O (fun r O1 => match r with
  | .d (.bool b) => if b = true then wb Γ O1 R xe else R (.d (.bool false)) O1
  | _ => False) xe
def dOrV (wa wb : DEx) : DEx := fun Γ O R xe => wa Γ O (fun r O1 => match r with
  | .d (.bool b) => if b = true then R (.d (.bool true)) O1 else wb Γ O1 R xe
  | _ => False) xe
def dNotV (wa : DEx) : DEx := fun Γ O R xe => wa Γ O (fun r O1 => match r with
  | .d (.bool b) => R (.d (.bool (!b))) O1
  | _ => False) xe
theorem de_one {op} (h : DE X Wx a wa) : DE X Wx (.BoolOp op [a] pos) wa := pe_one h
theorem de_and (h : DE X Wx a wa) (hb : DE X Wx (.BoolOp .And (b :: rest) pos) wb) : DE X Wx (.BoolOp .And (a :: b :: rest) pos) (dAndV wa wb) := by
  refine pe_imp (fun σ H Q ⟨G, α, Γ, O, R, xe, sl, rel, h, p, xp⟩ => ?_) (pe_and h hb)
  refine ⟨G, α, Γ, O, _, xe, sl, rel, h, fun x O1 h1 u G1 α1 H1 e1 p1 rel1 r1 => ?_, xp⟩
  try dsimp only at h1
  try dsimp only
  split at h1
  · next bb =>
    cases r1
    refine ⟨bb, rfl, ?_⟩
    try dsimp only at h1
    try dsimp only
    split at h1
    · next c =>
      rw [if_pos c]
      exact ⟨G1, α1, Γ, O1, R, xe, sl.mono e1 p1, rel1, h1, p.mono e1 p1, xp.mono e1 p1⟩
    · next c =>
      rw [if_neg c]
      exact p _ _ h1 _ _ _ _ e1 p1 rel1 (.bl _)
  · exact h1.elim
theorem de_not (h : DE X Wx a wa) : DE X Wx (.UnaryOp .Not a pos) (dNotV wa) := by
  refine pe_imp (fun σ H Q ⟨G, α, Γ, O, R, xe, sl, rel, h, p, xp⟩ => ?_) (pe_not h)
  refine ⟨G, α, Γ, O, _, xe, sl, rel, h, fun x O1 h1 u G1 α1 H1 e1 p1 rel1 r1 => ?_, xp⟩
  try dsimp only at h1
  try dsimp only
  split at h1
  · next bb =>
    cases r1
    exact ⟨bb, rfl, p _ _ h1 _ _ _ _ e1 p1 rel1 (.bl _)⟩
  · exact h1.elim
def dIfE (t : DT) (wa wb : DEx) : DEx := fun Γ O R xe => t Γ O (fun b O1 => if b = true then wa Γ O1 R xe else wb Γ O1 R xe) xe
/-! #### arguments, displays -/
variable {es : List Expr} {ws : DA}
def dNil : DA := fun _ O R _ => R [] O
def dCons (wa : DEx) (ws : DA) : DA := fun Γ O R xe => wa Γ O (fun x O1 => ws Γ O1 (fun xs O2 => R (x :: xs) O2) xe) xe
theorem da_nil : DAs X Wx [] dNil := pa_imp (fun σ H Q ⟨G, α, Γ, O, R, xe, sl, rel, h, p, xp⟩ => p _ _ h _ _ _ _ (Ex.refl _) (Pre.refl _) rel .nil) pa_nil
theorem da_cons (ha : DE X Wx a wa) (hr : DAs X Wx es ws) (hs : starEach (a :: es) X.env = (false, eval a X.env) :: starEach es X.env := by rfl) : DAs X Wx (a :: es) (dCons wa ws) := by
  refine pa_imp (fun σ H Q ⟨G, α, Γ, O, R, xe, sl, rel, h, p, xp⟩ => ?_) (pa_cons ha hr hs)
  refine ⟨G, α, Γ, O, _, xe, sl, rel, h, fun x O1 h1 u G1 α1 H1 e1 p1 rel1 r1 => ?_, xp⟩
  refine ⟨G1, α1, Γ, O1, _, xe, sl.mono e1 p1, rel1, h1, fun y O2 h2 v G2 α2 H2 e2 p2 rel2 r2 => ?_, xp.mono e1 p1⟩
  exact p _ _ h2 _ _ _ _ (e1.trans e2) (p1.trans p2) rel2 (.cons (r1.mono e2 p2) r2)
/-- the data of values that never change -/
def datas : List W → Option (List PyData)
  | [] => some []
  | .d x :: r => match datas r with
    | some xs => some (x :: xs)
    | none => none
  | _ :: _ => none
theorem datas_map (ds : List PyData) : datas (ds.map W.d) = some ds := by
  induction ds with
  | nil => rfl
  | cons d ds ih => show (match datas (ds.map W.d) with | some xs => some (d :: xs) | none => none) = _; rw [ih]
theorem datas_eq : ∀ {ws : List W} {ds : List PyData}, datas ws = some ds → ws = ds.map W.d
  | [], ds, h => by cases h; rfl
  | .d x :: r, ds, h => by
    unfold datas at h
    split at h
    · next xs e => cases h; rw [datas_eq e]; rfl
    · cases h
  | .c _ :: _, _, h => by cases h
  | .k _ :: _, _, h => by cases h
  | .p _ :: _, _, h => by cases h
  | .q _ _ :: _, _, h => by cases h
  | .o _ _ _ :: _, _, h => by cases h
  | .t _ :: _, _, h => by cases h
def dTup (w : DA) : DEx := fun Γ O R xe => w Γ O (fun ws O1 => match datas ws with
  | some ds => ds.length ≤ 1000000 ∧ R (.d (.tuple ds)) O1
  | none => False) xe
def dLst (w : DA) : DEx := fun Γ O R xe => w Γ O (fun ws O1 => match datas ws with
  | some ds => ds.length ≤ 1000000 ∧ R (.d (.list ds)) O1
  | none => False) xe
/-- a list that will change -/
def dLstC (w : DA) : DEx := fun Γ O R xe => w Γ O (fun ws O1 => ws.length ≤ 1000000 ∧ R (.c O1.length) (O1 ++ [.lst ws])) xe
theorem szl {n : Nat} (h : n ≤ 1000000) : n ≤ sizeLine := Nat.le_trans h (by decide)
theorem szlt {n : Nat} (h : n < 1000000) : n < sizeLine := Nat.lt_of_lt_of_le h (by decide)
/-- a tuple of written items, known to have no dict of its own -/
def tTupF (t : TA) : TE := fun σ H Q => t σ H fun xs H1 => xs.length ≤ sizeLine ∧ ∀ p ob, H1 p = none → ob.dict = none → Q (.ref p) (upd H1 p (.frz ob (.tup xs)))
theorem pe_tupF {es : List Expr} {t : TA} {x1} (h : PA X es t) : PE X (.Tuple es x1 pos) (tTupF t) := by
  refine ⟨fun pins s σ H Q I hq => ?_⟩
  refine wpAny_Tuple_spliced (thn (h.run pos pins s σ H _ I hq) fun us s1 ⟨xs, H1, I1, r, z, q⟩ => ⟨by rw [← r.length]; exact z, ?_⟩)
  have hf : H1 s1.heap.objs.size = none := I1.hok.fresh (Nat.le_refl _)
  refine ⟨.ref s1.heap.objs.size, upd H1 s1.heap.objs.size (.frz { cls := .type "tuple", data := .seq us.toArray } (.tup xs)), I1.laid (t' := s1.toks) (fun b u e => Heap.get?_push_of_some _ e) (Nat.le_refl _) ?_, rfl, q _ _ hf rfl⟩
  exact ⟨Heap.get?_push_size _ rfl, z, us, r, ⟨_, Heap.get?_push_size _ rfl, rfl, _, rfl⟩⟩
theorem Post.layF {K : Fg} {mg : Str → Option Value} {G : Hp} {α : Al} {R : DK} {Q : VK} {ds : List PyData} {vs : List V} {O : Oh} {H : Hp} {p : Addr} {ob : Obj} (h : Post K mg G α R Q) (q : R (.d (.tuple ds)) O) (R' : Rel K mg G α O H) (hp : H p = none) (hd : ob.dict = none) (rv : RpL K G vs ds) : Q (.ref p) (upd H p (.frz ob (.tup vs))) := by
  have gp := R'.ex.free hp
  exact h.lay q R' hp (.tup (.inl (.inr ⟨ob, upd_same⟩)) (.inl ⟨ob, _, upd_same, hd⟩) (rv.mono (Ex.new gp)))
theorem de_tup {x1} (h : DAs X Wx es ws) : DE X Wx (.Tuple es x1 pos) (dTup ws) := by
  refine pe_imp (fun σ H Q ⟨G, α, Γ, O, R, xe, sl, rel, h, p, xp⟩ => ?_) (pe_tupF h)
  refine ⟨G, α, Γ, O, _, xe, sl, rel, h, fun y O1 h1 vs G1 α1 H1 e1 p1 rel1 r1 => ?_, xp⟩
  try dsimp only at h1
  try dsimp only
  split at h1
  · next ds e =>
    rw [datas_eq e] at r1
    have r2 := r1.toD
    exact ⟨by rw [r2.length]; exact szl h1.1, fun q ob hq hd => (p.mono e1 p1).layF h1.2 rel1 hq hd r2⟩
  · exact h1.elim
theorem de_lst (h : DAs X Wx es ws) : DE X Wx (.List es pos) (dLst ws) := by
  refine pe_imp (fun σ H Q ⟨G, α, Γ, O, R, xe, sl, rel, h, p, xp⟩ => ?_) (pe_lst h)
  refine ⟨G, α, Γ, O, _, xe, sl, rel, h, fun y O1 h1 vs G1 α1 H1 e1 p1 rel1 r1 => ?_, xp⟩
  try dsimp only at h1
  try dsimp only
  split at h1
  · next ds e =>
    rw [datas_eq e] at r1
    have r2 := r1.toD
    refine ⟨by rw [r2.length]; exact szl h1.1, fun q hq => ?_⟩
    have rel2 := rel1.lay (o := .lst vs) hq
    have e2 : Ex G1 (upd G1 q (.lst vs)) := Ex.new (rel1.ex.free hq)
    exact p _ _ h1.2 _ _ _ _ (e1.trans e2) p1 rel2 (.lst upd_same (r2.mono e2))
  · exact h1.elim
theorem pre_len {α : Al} {p : Addr} {O : Oh} (h : α.as.length = O.length) : (α.push p).as[O.length]? = some p := by
  show (α.as ++ [p])[O.length]? = some p
  rw [List.getElem?_append_right (by omega), h, Nat.sub_self]
  rfl
theorem de_lstC (h : DAs X Wx es ws) : DE X Wx (.List es pos) (dLstC ws) := by
  refine pe_imp (fun σ H Q ⟨G, α, Γ, O, R, xe, sl, rel, h, p, xp⟩ => ?_) (pe_lst h)
  refine ⟨G, α, Γ, O, _, xe, sl, rel, h, fun y O1 h1 vs G1 α1 H1 e1 p1 rel1 r1 => ?_, xp⟩
  refine ⟨by rw [r1.len]; exact szl h1.1, fun q hq => ?_⟩
  have rel2 := rel1.cell (o := .lst vs) (c := .lst y) hq (fun b z => by cases z) ⟨rel1.ex.free hq, vs, upd_same, r1.mono (Ex.refl _) (Pre.push)⟩
  exact p _ _ h1.2 _ _ _ _ e1 (p1.trans (Pre.push)) rel2 ⟨q, pre_len rel1.len, rfl⟩
end
end Dl
namespace Dl
open PySem PySem.Spec PyProof.Rows L2
variable [TabsC]
section
variable {X : Cx} {Wx : WX} {k : Nat} {a b c e : Expr} {wa wb wc we : DEx} {pos p2 : Pos} {t u : DSt} {st : Stmt} {rest : List Stmt}
/-! #### statements -/
def dNext : DSt := fun D _ Γ O => D.nx Γ O
def dSeq (t u : DSt) : DSt := fun D xe Γ O => t { D with nx := u D xe } xe Γ O
def dBreak : DSt := fun D _ Γ O => D.bk Γ O
def dCont : DSt := fun D _ Γ O => D.ct Γ O
def dDrop (w : DEx) : DSt := fun D xe Γ O => w Γ O (fun _ O1 => D.nx Γ O1) xe
def dRet (w : DEx) : DSt := fun D xe Γ O => w Γ O D.rt xe
def dRetN : DSt := fun D _ _ O => D.rt (.d .none) O
def dIf (c : DT) (t u : DSt) : DSt := fun D xe Γ O => c Γ O (fun b O1 => if b = true then t D xe Γ O1 else u D xe Γ O1) xe
theorem dss_nil : DSs X Wx [] dNext := pss_imp (fun D σ H ⟨G, α, Γ, O, DD, xe, sl, rel, h, p, xp⟩ => p.nx.here h rel sl) pss_nil
theorem dss_cons (h1 : DS X Wx st t) (h2 : DSs X Wx rest u) : DSs X Wx (st :: rest) (dSeq t u) := by
  refine pss_imp (fun D σ H ⟨G, α, Γ, O, DD, xe, sl, rel, h, p, xp⟩ => ?_) (pss_cons h1 h2)
  refine ⟨G, α, Γ, O, _, xe, sl, rel, h, ⟨fun Γ1 O1 h1 σ1 G1 α1 H1 e1 p1 rel1 sl1 => ?_, p.rt, p.bk, p.ct⟩, xp⟩
  exact ⟨G1, α1, Γ1, O1, DD, xe, sl1, rel1, h1, p.mono e1 p1, xp.mono e1 p1⟩
theorem dss_one (h1 : DS X Wx st t) : DSs X Wx [st] t := pss_one h1
theorem ds_expr (he : DE X Wx e we) (hs : swapsWith e none pos.line X.env = pure false := by rfl) : DS X Wx (.Expr e pos) (dDrop we) := by
  refine ps_imp (fun D σ H ⟨G, α, Γ, O, DD, xe, sl, rel, h, p, xp⟩ => ?_) (ps_expr he hs)
  exact ⟨G, α, Γ, O, _, xe, sl, rel, h, fun x O1 h1 v G1 α1 H1 e1 p1 rel1 r1 => p.nx _ _ h1 _ _ _ _ e1 p1 rel1 (sl.mono e1 p1), xp⟩
theorem ds_ret (he : DE X Wx e we) : DS X Wx (.Return (some e) pos) (dRet we) := by
  refine ps_imp (fun D σ H ⟨G, α, Γ, O, DD, xe, sl, rel, h, p, xp⟩ => ?_) (ps_ret he)
  exact ⟨G, α, Γ, O, _, xe, sl, rel, h, p.rt, xp⟩
theorem ds_if {tc : DT} {sa sb : List Stmt} (hc : DTt X Wx c tc) (ha : DSs X Wx sa t) (hb : DSs X Wx sb u) : DS X Wx (.If c sa sb pos) (dIf tc t u) := by
  refine ps_imp (fun D σ H ⟨G, α, Γ, O, DD, xe, sl, rel, h, p, xp⟩ => ?_) (ps_if hc ha hb)
  refine ⟨G, α, Γ, O, _, xe, sl, rel, h, fun x O1 h1 G1 α1 H1 e1 p1 rel1 => ?_, xp⟩
  dsimp only at h1 ⊢
  split at h1
  · next c =>
    rw [if_pos c]
    exact ⟨G1, α1, Γ, O1, DD, xe, sl.mono e1 p1, rel1, h1, p.mono e1 p1, xp.mono e1 p1⟩
  · next c =>
    rw [if_neg c]
    exact ⟨G1, α1, Γ, O1, DD, xe, sl.mono e1 p1, rel1, h1, p.mono e1 p1, xp.mono e1 p1⟩
/-! #### targets: names and tuples of such -/
inductive Tg where
  | nm (i : Nat)
  | tup (ts : List Tg)
mutual
def Tg.g (K : Fg) : Tg → TG
  | .nm i => gName i
  | .tup ts => gTup K (Tg.len ts) (Tg.gs K ts)
def Tg.gs (K : Fg) : List Tg → TGs
  | [] => gNil
  | t :: ts => gCons (Tg.g K t) (Tg.gs K ts)
def Tg.len : List Tg → Nat
  | [] => 0
  | _ :: ts => Tg.len ts + 1
end
mutual
/-- what a store makes of the slots -/
def Tg.put : Tg → W → Gm → (Gm → Prop) → Prop
  | .nm i, w, Γ, R => R (Γ.set i (some w))
  | .tup ts, w, Γ, R => match w with
    | .d (.tuple ds) => Tg.puts ts (ds.map W.d) Γ R
    | .p ds => Tg.puts ts (ds.map W.d) Γ R
    | .k ks => Tg.puts ts (ks.map fun x => W.d (keyD x)) Γ R
    | .q ks x => Tg.puts ts [.k ks, .d x] Γ R
    | .t xs => Tg.puts ts (xs.map tiW) Γ R
    | _ => False
def Tg.puts : List Tg → List W → Gm → (Gm → Prop) → Prop
  | [], ds, Γ, R => match ds with
    | [] => R Γ
    | _ :: _ => False
  | t :: ts, ds, Γ, R => match ds with
    | [] => False
    | d :: r => Tg.put t d Γ fun Γ1 => Tg.puts ts r Γ1 R
end
mutual
/-- the slots it stores to lie among these -/
def Tg.sub (own : List Nat) : Tg → Bool
  | .nm i => decide (i ∈ own)
  | .tup ts => Tg.subs own ts
def Tg.subs (own : List Nat) : List Tg → Bool
  | [] => true
  | t :: ts => t.sub own && Tg.subs own ts
end
theorem wipe_set {i : Nat} {v : Option V} : ∀ {own : List Nat} {σ : L2.St}, i ∈ own → wipe (σ.set i v) own = wipe σ own
  | j :: r, σ, h => by
    show (wipe (σ.set i v) r).set j none = (wipe σ r).set j none
    by_cases z : i ∈ r
    · rw [wipe_set z]
    · have e : j = i := by
        rcases List.mem_cons.mp h with h | h
        · exact h.symm
        · exact absurd h z
      subst e
      have com : ∀ {q : List Nat}, j ∉ q → wipe (σ.set j v) q = (wipe σ q).set j v := by
        intro q
        induction q with
        | nil => intro _; rfl
        | cons m q ih =>
          intro hm
          have h1 : j ≠ m := fun e => hm (e ▸ List.mem_cons_self)
          have h2 : j ∉ q := fun e => hm (List.mem_cons_of_mem _ e)
          show (wipe (σ.set j v) q).set m none = ((wipe σ q).set m none).set j v
          rw [ih h2, List.set_comm _ _ h1]
      rw [com z, List.set_set]
section
variable {K : Fg} {mg : Str → Option Value} {G : Hp} {α : Al} {H : Hp}
mutual
theorem Tg.put_ok : ∀ (t : Tg) {w : W} {v : V} {Γ : Gm} {σ : L2.St} {R : Gm → Prop} {O : Oh} {Q : L2.St → Hp → Prop}, Rel K mg G α O H → Sl K G α Γ σ → Rv K G α v w → t.put w Γ R →
    (∀ Γ' σ', R Γ' → Sl K G α Γ' σ' → (∀ own, t.sub own = true → wipe σ' own = wipe σ own) → Q σ' H) → t.g K v σ H Q
  | .nm i, w, v, Γ, σ, R, O, Q, rel, sl, rv, h, q => by
    refine q _ _ h (sl.set rv i) fun own ho => wipe_set (of_decide_eq_true ho)
  | .tup ts, w, v, Γ, σ, R, O, Q, rel, sl, rv, h, q => by
    match w, h with
    | .d (.tuple ds), h =>
      cases rv with
      | tup hs td ha =>
        rename_i a xs
        have r := RvL.ofD (α := α) ha
        exact ⟨a, xs, rfl, rel.ex.sqT hs, by rw [r.len]; exact Tg.puts_len ts h, Tg.puts_ok ts rel sl r h q⟩
    | .p ds, h =>
      obtain ⟨a, xs, rfl, hs, ha⟩ := rv
      have r := RvL.ofD (α := α) ha
      exact ⟨a, xs, rfl, rel.ex.sqT hs, by rw [r.len]; exact Tg.puts_len ts h, Tg.puts_ok ts rel sl r h q⟩
    | .k ks, h =>
      obtain ⟨ok, a, rfl, hs⟩ := rv
      have r : RvL K G α (ks.map kV) (ks.map fun x => W.d (keyD x)) := by
        have z := RvL.ofD (α := α) (RpL.keys (K := K) (G := G) ok)
        rwa [List.map_map] at z
      exact ⟨a, _, rfl, rel.ex.sqT (SqT.of hs), by rw [r.len]; exact Tg.puts_len ts h, Tg.puts_ok ts rel sl r h q⟩
    | .q ks x, h =>
      obtain ⟨ok, a, b, u, rfl, hs, hb, hu⟩ := rv
      have r : RvL K G α [.ref b, u] [.k ks, .d x] := .cons ⟨ok, b, rfl, hb⟩ (.cons hu .nil)
      exact ⟨a, _, rfl, rel.ex.sqT hs, by rw [r.len]; exact Tg.puts_len ts h, Tg.puts_ok ts rel sl r h q⟩
    | .t xs, h =>
      obtain ⟨a, vs, rfl, hs, hr⟩ := rv
      have r := RiL.rv hr
      exact ⟨a, _, rfl, rel.ex.sqT (SqT.of hs), by rw [r.len]; exact Tg.puts_len ts h, Tg.puts_ok ts rel sl r h q⟩
theorem Tg.puts_ok : ∀ (ts : List Tg) {ds : List W} {vs : List V} {Γ : Gm} {σ : L2.St} {R : Gm → Prop} {O : Oh} {Q : L2.St → Hp → Prop}, Rel K mg G α O H → Sl K G α Γ σ → RvL K G α vs ds → Tg.puts ts ds Γ R →
    (∀ Γ' σ', R Γ' → Sl K G α Γ' σ' → (∀ own, Tg.subs own ts = true → wipe σ' own = wipe σ own) → Q σ' H) → Tg.gs K ts vs σ H Q
  | [], ds, vs, Γ, σ, R, O, Q, rel, sl, rv, h, q => by
    match ds, h with
    | [], h =>
      cases rv
      exact ⟨rfl, q _ _ h sl fun _ _ => rfl⟩
  | t :: ts, ds, vs, Γ, σ, R, O, Q, rel, sl, rv, h, q => by
    match ds, h with
    | d :: r, h =>
      cases rv with
      | cons r1 r2 =>
        rename_i v vr
        refine ⟨v, vr, rfl, Tg.put_ok t rel sl (w := d) r1 h fun Γ1 σ1 h1 sl1 w1 => ?_⟩
        refine Tg.puts_ok ts rel sl1 r2 h1 fun Γ2 σ2 h2 sl2 w2 => ?_
        refine q Γ2 σ2 h2 sl2 fun own ho => ?_
        have ho' : t.sub own = true ∧ Tg.subs own ts = true := by
          have z : (t.sub own && Tg.subs own ts) = true := ho
          rwa [Bool.and_eq_true] at z
        rw [w2 own ho'.2, w1 own ho'.1]
theorem Tg.puts_len : ∀ (ts : List Tg) {ds : List W} {Γ : Gm} {R : Gm → Prop}, Tg.puts ts ds Γ R → ds.length = Tg.len ts
  | [], ds, Γ, R, h => by
    match ds, h with
    | [], h => rfl
  | t :: ts, ds, Γ, R, h => by
    match ds, h with
    | d :: r, h =>
      show r.length + 1 = Tg.len ts + 1
      obtain ⟨Γ1, h1⟩ := Tg.put_some t h
      rw [Tg.puts_len ts h1]
theorem Tg.put_some : ∀ (t : Tg) {w : W} {Γ : Gm} {R : Gm → Prop}, t.put w Γ R → ∃ Γ', R Γ'
  | .nm i, w, Γ, R, h => ⟨_, h⟩
  | .tup ts, w, Γ, R, h => by
    match w, h with
    | .d (.tuple ds), h => exact Tg.puts_some ts h
    | .p ds, h => exact Tg.puts_some ts h
    | .k ks, h => exact Tg.puts_some ts h
    | .q ks x, h => exact Tg.puts_some ts h
    | .t xs, h => exact Tg.puts_some ts h
theorem Tg.puts_some : ∀ (ts : List Tg) {ds : List W} {Γ : Gm} {R : Gm → Prop}, Tg.puts ts ds Γ R → ∃ Γ', R Γ'
  | [], ds, Γ, R, h => by
    match ds, h with
    | [], h => exact ⟨_, h⟩
  | t :: ts, ds, Γ, R, h => by
    match ds, h with
    | d :: r, h =>
      obtain ⟨Γ1, h1⟩ := Tg.put_some t h
      exact Tg.puts_some ts h1
end
end
/-- name = e, (a, b) = e -/
def dAsg (w : DEx) (t : Tg) : DSt := fun D xe Γ O => w Γ O (fun x O1 => t.put x Γ fun Γ' => D.nx Γ' O1) xe
theorem lift_asg {K : Fg} {mg : Str → Option Value} {w : DEx} {t : Tg} {D : Ends} {σ : L2.St} {H : Hp} (h : liftS K mg Wx (dAsg w t) D σ H) : tAsg (liftE K mg Wx w) (t.g K) D σ H := by
  obtain ⟨G, α, Γ, O, DD, xe, sl, rel, h, p, xp⟩ := h
  refine ⟨G, α, Γ, O, _, xe, sl, rel, h, fun x O1 h1 v G1 α1 H1 e1 p1 rel1 r1 => ?_, xp⟩
  exact Tg.put_ok t rel1 (sl.mono e1 p1) r1 h1 fun Γ' σ' q sl' _ => p.nx _ _ q _ _ _ _ e1 p1 rel1 sl'
theorem ds_set (g : Good X Wx k) {i : Nat} {x : Str} {pos' : Pos} (hi : X.N[i]? = some x) (hx : Loc X.env.scope x) (he : DE X Wx e we) (hs : swapsWith e (some (.Name x pos')) pos.line X.env = pure false := by rfl) (hf : X.fn x = true ∨ X.env.scope.names.lookup x = some .local := by first | exact .inl rfl | exact .inr rfl | assumption) :
    DS X Wx (.Assign [.Name x pos'] e pos) (dAsg we (.nm i)) := ps_imp (fun D σ H h => lift_asg h) (ps_set g.nd hi hx he hs hf)
theorem ds_asg {tg : Expr} (t : Tg) (he : DE X Wx e we) (hg : PG X tg (t.g X.K)) (hs : swapsWithSole [tg] e pos.line X.env = pure false := by rfl) (hw : swappedStores [tg] e X.env = pure none := by rfl)
    (h1 : (assignEach [tg] X.env).map (·.2) = [assign tg X.env] := by rfl) : DS X Wx (.Assign [tg] e pos) (dAsg we t) := ps_imp (fun D σ H h => lift_asg h) (ps_asg he hg hs hw h1)
/-- a, b = e1, e2 -/
def dPar (i j : Nat) (ws : DA) : DSt := fun D xe Γ O => ws Γ O (fun vs O1 => match vs with
  | [v, w] => D.nx ((Γ.set i (some v)).set j (some w)) O1
  | _ => False) xe
theorem ds_par (g : Good X Wx k) {ws : DA} {i j : Nat} {x y : Str} {px py pt : Pos} {kt k2 pt2} (hi : X.N[i]? = some x) (hj : X.N[j]? = some y) (hij : i ≠ j)
    (hx : X.env.scope.names.lookup x = some .local) (hy : X.env.scope.names.lookup y = some .local) (ha : DAs X Wx [a, b] ws)
    (hw : swappedStores [.Tuple [.Name x px, .Name y py] kt pt] (.Tuple [a, b] k2 pt2) X.env = pure (some [x, y]))
    (hs : swapsWithSole [.Tuple [.Name x px, .Name y py] kt pt] (.Tuple [a, b] k2 pt2) pos.line X.env = pure false := by rfl) :
    DS X Wx (.Assign [.Tuple [.Name x px, .Name y py] kt pt] (.Tuple [a, b] k2 pt2) pos) (dPar i j ws) := by
  refine ps_imp (fun D σ H ⟨G, α, Γ, O, DD, xe, sl, rel, h, p, xp⟩ => ?_) (ps_par g.calm g.nd hi hj hij hx hy ha hw hs)
  refine ⟨G, α, Γ, O, _, xe, sl, rel, h, fun y O1 h1 vs G1 α1 H1 e1 p1 rel1 r1 => ?_, xp⟩
  dsimp only at h1
  split at h1
  · next v w =>
    cases r1 with
    | cons ra rr =>
      cases rr with
      | cons rb rn =>
        cases rn
        exact ⟨_, _, rfl, p.nx _ _ h1 _ _ _ _ e1 p1 rel1 (((sl.mono e1 p1).set ra i).set rb j)⟩
  · exact h1.elim
/-! #### what is walked -/
theorem pre_get' {α α' : Al} {k : Nat} {a : Addr} (h : α.as <+: α'.as) (e : α.as[k]? = some a) : α'.as[k]? = some a := by
  obtain ⟨t, ht⟩ := h
  rw [← ht, List.getElem?_append_left (List.getElem?_eq_some_iff.mp e).1]
  exact e
theorem Rv.mono' {K : Fg} {G G' : Hp} {α α' : Al} {v : V} {w : W} (e : Ex G G') (p : α.as <+: α'.as) (h : Rv K G α v w) : Rv K G' α' v w := by
  have h' : Rv K G ⟨α.as, α'.hid⟩ v w := by cases w <;> exact h
  have pp : Pre ⟨α.as, α'.hid⟩ α' := ⟨p, rfl⟩
  exact h'.mono e pp
theorem Sl.mono' {K : Fg} {G G' : Hp} {α α' : Al} {Γ : Gm} {σ : L2.St} (e : Ex G G') (p : α.as <+: α'.as) (h : Sl K G α Γ σ) : Sl K G' α' Γ σ := ⟨h.len, fun i w q => by
  obtain ⟨v, h1, h2⟩ := h.at_ i w q
  exact ⟨v, h1, h2.mono' e p⟩⟩
abbrev DI := Gm → Oh → (List W → (Oh → Prop) → Oh → Prop) → DX → Prop
/-- the walk of J yields just these, while ok holds -/
def Sim (K : Fg) (mg : Str → Option Value) (J : It) (G0 : Hp) (α0 : Al) (xs : List W) (ok : Oh → Prop) : Prop := ∀ (i : Nat) (G : Hp) (α : Al) (O : Oh) (H : Hp), Ex G0 G → α0.as <+: α.as → Rel K mg G α O H → ok O →
  (xs.length ≤ i → J.stop i H) ∧ ∀ w, xs[i]? = some w → J.go i H ∧ ∀ x H', J.yld i H x H' → ∃ G', Ex G G' ∧ Rel K mg G' α O H' ∧ Rv K G' α x w
def liftI (K : Fg) (mg : Str → Option Value) (Wx : WX) (w : DI) : TI := fun σ H R => ∃ G α Γ O S xe, Sl K G α Γ σ ∧ Rel K mg G α O H ∧ w Γ O S xe ∧ XPost K mg G α xe Wx ∧
  ∀ xs ok O', S xs ok O' → ∀ J G' α' H', Ex G G' → Pre α α' → Rel K mg G' α' O' H' → Sim K mg J G' α' xs ok → R J H'
def DIt (X : Cx) (Wx : WX) (tg it : Expr) (w : DI) : Prop := PI X tg it (liftI X.K X.mg Wx w)
theorem pi_imp {X : Cx} {tg it : Expr} {t t' : TI} (i : ∀ σ H R, t' σ H R → t σ H R) (h : PI X tg it t) : PI X tg it t' := ⟨fun pins s σ H R I q => h.run pins s σ H R I (i _ _ _ q)⟩
/-- a list or a tuple -/
def dSeqI (w : DEx) : DI := fun Γ O S xe => w Γ O (fun r O1 => match r with
  | .d (.list ds) => S (ds.map W.d) (fun _ => True) O1
  | .d (.tuple ds) => S (ds.map W.d) (fun _ => True) O1
  | .c k => match O1[k]? with
    | some (.lst ws) => S ws (fun O => O[k]? = some (.lst ws)) O1
    | _ => False
  | _ => False) xe
def iSeq (K : Fg) (tl : TE) : TI := fun σ H R => tl σ H fun x H1 => (∃ a, x = .ref a ∧ (∃ xs, SqL K H1 a xs) ∧ R (Itl K a) H1) ∨ (∃ a, x = .ref a ∧ (∃ xs, SqT K H1 a xs) ∧ R (Itt K a) H1)
theorem pi_seq {tg l : Expr} {tl : TE} (hl : PE X l tl) : PI X tg l (iSeq X.K tl) := by
  refine ⟨fun pins s σ H R I h => ?_⟩
  refine thn (hl.run pins s σ H _ I h) fun v s1 ⟨x, H1, I1, r1, q1⟩ => ?_
  rcases q1 with ⟨a, e, ⟨xs, hq⟩, q⟩ | ⟨a, e, ⟨xs, hq⟩, q⟩
  · subst e
    cases r1
    obtain ⟨its, rv, p, hz⟩ := I1.list hq
    refine wpAny_pyIter_list p.isList ?_
    refine ⟨s1.heap.objs.size, [s1.heap.objs.size], _, _, H1, rfl, I1.kept (t' := s1.toks) fun b o e => Heap.get?_push_of_some _ e, turn_list a _, ⟨_, Heap.get?_push_size _ rfl, rfl, rfl⟩, fun b hb => ?_, q⟩
    have e : b = s1.heap.objs.size := by simpa using hb
    subst e
    exact I1.fpOk (Nat.le_refl _) (I1.hok.fresh (Nat.le_refl _))
  · subst e
    cases r1
    obtain ⟨its, rv, p, hz⟩ := I1.tuple hq
    refine wpAny_pyIter_tuple (show s1.heap.IsTuple a its.toArray from p) ?_
    refine ⟨s1.heap.objs.size, [s1.heap.objs.size], _, _, H1, rfl, I1.kept (t' := s1.toks) fun b o e => Heap.get?_push_of_some _ e, turn_tuple a _, ⟨_, Heap.get?_push_size _ rfl, rfl, rfl⟩, fun b hb => ?_, q⟩
    have e : b = s1.heap.objs.size := by simpa using hb
    subst e
    exact I1.fpOk (Nat.le_refl _) (I1.hok.fresh (Nat.le_refl _))
theorem sim_list {K : Fg} {mg : Str → Option Value} {G0 : Hp} {α0 : Al} {a : Addr} {vs : List V} {ds : List PyData} (h : SqL K G0 a vs) (r : RpL K G0 vs ds) : Sim K mg (Itl K a) G0 α0 (ds.map W.d) fun _ => True := by
  intro i G α O H e p rel _
  have h' : SqL K H a vs := rel.ex.sqL (e.sqL h)
  refine ⟨fun hi => ⟨vs, h', by rw [r.length]; rw [List.length_map] at hi; exact hi⟩, fun w hw => ?_⟩
  rw [List.getElem?_map] at hw
  cases hd : ds[i]? with
  | none => rw [hd] at hw; cases hw
  | some d =>
    rw [hd] at hw
    cases hw
    obtain ⟨v, hv, rv⟩ := r.get hd
    refine ⟨⟨vs, v, h', hv⟩, fun x H' ⟨eH, y⟩ => ?_⟩
    subst eH
    have := y vs h'
    rw [hv] at this
    cases this
    exact ⟨G, Ex.refl _, rel, rv.mono e⟩
theorem sim_tup {K : Fg} {mg : Str → Option Value} {G0 : Hp} {α0 : Al} {a : Addr} {vs : List V} {ds : List PyData} (h : SqT K G0 a vs) (r : RpL K G0 vs ds) : Sim K mg (Itt K a) G0 α0 (ds.map W.d) fun _ => True := by
  intro i G α O H e p rel _
  have h' : SqT K H a vs := rel.ex.sqT (e.sqT h)
  refine ⟨fun hi => ⟨vs, h', by rw [r.length]; rw [List.length_map] at hi; exact hi⟩, fun w hw => ?_⟩
  rw [List.getElem?_map] at hw
  cases hd : ds[i]? with
  | none => rw [hd] at hw; cases hw
  | some d =>
    rw [hd] at hw
    cases hw
    obtain ⟨v, hv, rv⟩ := r.get hd
    refine ⟨⟨vs, v, h', hv⟩, fun x H' ⟨eH, y⟩ => ?_⟩
    subst eH
    have := y vs h'
    rw [hv] at this
    cases this
    exact ⟨G, Ex.refl _, rel, rv.mono e⟩
theorem sim_cell {K : Fg} {mg : Str → Option Value} {G0 : Hp} {α0 : Al} {a : Addr} {k : Nat} {ws : List W} (ha : α0.as[k]? = some a) : Sim K mg (Itl K a) G0 α0 ws fun O => O[k]? = some (.lst ws) := by
  intro i G α O H e p rel ok
  obtain ⟨_, vs, hH, r⟩ := rel.at_ k a _ (pre_get' p ha) ok
  have h' : SqL K H a vs := SqL.of hH
  refine ⟨fun hi => ⟨vs, h', by rw [r.len]; exact hi⟩, fun w hw => ?_⟩
  obtain ⟨v, hv, rv⟩ := r.get hw
  refine ⟨⟨vs, v, h', hv⟩, fun x H' ⟨eH, y⟩ => ?_⟩
  subst eH
  have := y vs h'
  rw [hv] at this
  cases this
  exact ⟨G, Ex.refl _, rel, rv⟩
theorem di_seq {tg l : Expr} (hl : DE X Wx l wa) : DIt X Wx tg l (dSeqI wa) := by
  refine pi_imp (fun σ H R ⟨G, α, Γ, O, S, xe, sl, rel, h, xp, q⟩ => ?_) (pi_seq hl)
  refine ⟨G, α, Γ, O, _, xe, sl, rel, h, fun x O1 h1 v G1 α1 H1 e1 p1 rel1 r1 => ?_, xp⟩
  dsimp only at h1
  split at h1
  · next ds =>
    cases r1 with
    | lst hs ha => exact .inl ⟨_, rfl, ⟨_, SqL.of (rel1.ex _ _ hs)⟩, q _ _ _ h1 _ _ _ _ e1 p1 rel1 (sim_list (SqL.of hs) ha)⟩
  · next ds =>
    cases r1 with
    | tup hs td ha => exact .inr ⟨_, rfl, ⟨_, rel1.ex.sqT hs⟩, q _ _ _ h1 _ _ _ _ e1 p1 rel1 (sim_tup hs ha)⟩
  · next k =>
    split at h1
    · next ws ek =>
      obtain ⟨a, ha, rfl⟩ := r1
      obtain ⟨_, vs, hH, r⟩ := rel1.at_ k a _ ha ek
      exact .inl ⟨_, rfl, ⟨_, SqL.of hH⟩, q _ _ _ h1 _ _ _ _ e1 p1 rel1 (sim_cell ha)⟩
    · exact h1.elim
  · exact h1.elim
/-- lo, lo + 1, .. -/
def rgW (lo : Int) : Nat → List W
  | 0 => []
  | n + 1 => .d (.int lo) :: rgW (lo + 1) n
theorem rgW_len : ∀ (lo : Int) (n : Nat), (rgW lo n).length = n
  | _, 0 => rfl
  | lo, n + 1 => by show (rgW (lo + 1) n).length + 1 = n + 1; rw [rgW_len]
theorem rgW_get : ∀ (lo : Int) (n i : Nat), i < n → (rgW lo n)[i]? = some (.d (.int (lo + (i : Nat))))
  | lo, 0, i, h => by omega
  | lo, n + 1, 0, h => by show some _ = _; simp
  | lo, n + 1, i + 1, h => by
    show (rgW (lo + 1) n)[i]? = _
    rw [rgW_get (lo + 1) n i (by omega)]
    congr 3
    omega
theorem sim_rng {K : Fg} {mg : Str → Option Value} {G0 : Hp} {α0 : Al} {lo : Int} {n : Nat} : Sim K mg (Itr lo n) G0 α0 (rgW lo n) fun _ => True := by
  intro i G α O H e p rel _
  refine ⟨fun hi => by rw [rgW_len] at hi; exact hi, fun w hw => ?_⟩
  have hi : i < n := by
    have := (List.getElem?_eq_some_iff.mp hw).1
    rwa [rgW_len] at this
  rw [rgW_get lo n i hi] at hw
  cases hw
  refine ⟨hi, fun x H' ⟨eH, y⟩ => ?_⟩
  subst eH
  subst y
  exact ⟨G, Ex.refl _, rel, .int _⟩
def dRng1 (w : DA) : DI := fun Γ O S xe => w Γ O (fun vs O1 => match vs with
  | [.d (.int j)] => j < 4611686018427387904 ∧ -4611686018427387904 ≤ j ∧ S (rgW 0 j.toNat) (fun _ => True) O1
  | _ => False) xe
def dRng2 (w : DA) : DI := fun Γ O S xe => w Γ O (fun vs O1 => match vs with
  | [.d (.int i), .d (.int j)] => (i < 4611686018427387904 ∧ -4611686018427387904 ≤ i ∧ j < 4611686018427387904 ∧ -4611686018427387904 ≤ j) ∧ S (rgW i (j - i).toNat) (fun _ => True) O1
  | _ => False) xe
theorem di_rng1 {tg : Expr} {ws : DA} {p pos : Pos} (hm : X.mg "range" = none) (ha : DAs X Wx [a] ws) (hg : Gl X "range" := by rfl) (hs : starEach [a] X.env = [(false, eval a X.env)] := by rfl) : DIt X Wx tg (.Call (.Name "range" p) [a] [] pos) (dRng1 ws) := by
  refine pi_imp (fun σ H R ⟨G, α, Γ, O, S, xe, sl, rel, h, xp, q⟩ => ?_) (pi_range1 hg hm ha hs)
  refine ⟨G, α, Γ, O, _, xe, sl, rel, h, fun x O1 h1 v G1 α1 H1 e1 p1 rel1 r1 => ?_, xp⟩
  dsimp only at h1
  split at h1
  · next j =>
    cases r1 with
    | cons ra rn =>
      cases rn
      cases ra
      exact ⟨j, rfl, h1.2.1, h1.1, q _ _ _ h1.2.2 _ _ _ _ e1 p1 rel1 sim_rng⟩
  · exact h1.elim
theorem di_rng2 {tg : Expr} {ws : DA} {p pos : Pos} (hm : X.mg "range" = none) (ha : DAs X Wx [a, b] ws) (hg : Gl X "range" := by rfl) (hs : starEach [a, b] X.env = [(false, eval a X.env), (false, eval b X.env)] := by rfl) (hs2 : starEach [b] X.env = [(false, eval b X.env)] := by rfl) :
    DIt X Wx tg (.Call (.Name "range" p) [a, b] [] pos) (dRng2 ws) := by
  refine pi_imp (fun σ H R ⟨G, α, Γ, O, S, xe, sl, rel, h, xp, q⟩ => ?_) (pi_range2 hg hm ha hs hs2)
  refine ⟨G, α, Γ, O, _, xe, sl, rel, h, fun x O1 h1 v G1 α1 H1 e1 p1 rel1 r1 => ?_, xp⟩
  dsimp only at h1
  split at h1
  · next i j =>
    cases r1 with
    | cons ra rn =>
      cases rn with
      | cons rb rn =>
        cases rn
        cases ra
        cases rb
        exact ⟨i, j, rfl, ⟨h1.1.2.1, h1.1.1, h1.1.2.2.2, h1.1.2.2.1⟩, q _ _ _ h1.2 _ _ _ _ e1 p1 rel1 sim_rng⟩
  · exact h1.elim
/-! #### for -/
def forGo (ok : Oh → Prop) (t : Tg) (body : DSt) (D : DEnds) (xe : DX) : List W → Gm → Oh → Prop
  | [], Γ, O => ok O ∧ D.nx Γ O
  | x :: r, Γ, O => ok O ∧ t.put x Γ fun Γ1 => body ⟨forGo ok t body D xe r, D.rt, D.nx, forGo ok t body D xe r⟩ xe Γ1 O
def dFor (w : DI) (t : Tg) (body : DSt) : DSt := fun D xe Γ O => w Γ O (fun xs ok O1 => forGo ok t body D xe xs Γ O1) xe
theorem ds_for (g : Good X Wx k) {tg it : Expr} {wi : DI} {body : List Stmt} {tb : DSt} (t : Tg) (hi : DIt X Wx tg it wi) (hg : PG X tg (t.g X.K)) (hb : DSs X Wx body tb) (hs : ∀ x, foldedSetIterable it X.env x = pure x := by intro _; rfl) :
    DS X Wx (.For tg it body [] pos) (dFor wi t tb) := by
  refine ps_imp (fun D σ H ⟨G, α, Γ, O, DD, xe, sl, rel, h, p, xp⟩ => ?_) (ps_for g.ps g.calm hi hg hb hs)
  refine ⟨G, α, Γ, O, _, xe, sl, rel, h, xp, fun xs ok O1 h1 J G1 α1 H1 e1 p1 rel1 sim => ?_⟩
  refine ⟨fun i m σ H => m = xs.length - i ∧ i ≤ xs.length ∧ ∃ G2 α2 Γ2 O2, Ex G1 G2 ∧ Pre α1 α2 ∧ Sl X.K G2 α2 Γ2 σ ∧ Rel X.K X.mg G2 α2 O2 H ∧ forGo ok t tb DD xe (xs.drop i) Γ2 O2,
    ⟨xs.length, by simp, Nat.zero_le _, G1, α1, Γ, O1, Ex.refl _, Pre.refl _, sl.mono e1 p1, rel1, h1⟩, ?_⟩
  rintro i m σ2 H2 ⟨rfl, hi, G2, α2, Γ2, O2, e2, p2, sl2, rel2, h2⟩
  by_cases hl : i < xs.length
  · rw [List.drop_eq_getElem_cons hl] at h2
    obtain ⟨ok2, h2⟩ := h2
    obtain ⟨hgo, hy⟩ := (sim i G2 α2 O2 H2 e2 p2.1 rel2 ok2).2 xs[i] (List.getElem?_eq_getElem hl)
    refine .inr ⟨hgo, fun σ3 H3 => ∃ G3 α3 Γ3 O3, Ex G1 G3 ∧ Pre α1 α3 ∧ Sl X.K G3 α3 Γ3 σ3 ∧ Rel X.K X.mg G3 α3 O3 H3 ∧ forGo ok t tb DD xe (xs.drop (i + 1)) Γ3 O3,
      fun σ' H' hN => ⟨xs.length - (i + 1), by omega, rfl, hl, hN⟩, fun x H3 y => ?_⟩
    obtain ⟨G3, e3, rel3, rv3⟩ := hy x H3 y
    refine Tg.put_ok t rel3 (sl2.mono e3 (Pre.refl _)) rv3 h2 fun Γ4 σ4 h4 sl4 _ => ?_
    refine ⟨G3, α2, Γ4, O2, _, xe, sl4, rel3, h4, ⟨fun Γ5 O5 h5 σ5 G5 α5 H5 e5 p5 rel5 sl5 => ?_, (p.rt.mono (e1.trans (e2.trans e3)) (p1.trans p2)), p.nx.mono (e1.trans (e2.trans e3)) (p1.trans p2), fun Γ5 O5 h5 σ5 G5 α5 H5 e5 p5 rel5 sl5 => ?_⟩, xp.mono (e1.trans (e2.trans e3)) (p1.trans p2)⟩
    · exact ⟨G5, α5, Γ5, O5, e2.trans (e3.trans e5), p2.trans p5, sl5, rel5, h5⟩
    · exact ⟨G5, α5, Γ5, O5, e2.trans (e3.trans e5), p2.trans p5, sl5, rel5, h5⟩
  · have ei : i = xs.length := by omega
    subst ei
    rw [List.drop_length] at h2
    exact .inl ⟨(sim _ G2 α2 O2 H2 e2 p2.1 rel2 h2.1).1 (Nat.le_refl _), p.nx _ _ h2.2 _ _ _ _ (e1.trans e2) (p1.trans p2) rel2 sl2⟩
/-! #### while -/
def whileGo (c : DT) (body : DSt) (D : DEnds) (xe : DX) : Nat → Gm → Oh → Prop
  | 0, _, _ => False
  | n + 1, Γ, O => c Γ O (fun b O1 => if b = true then body ⟨whileGo c body D xe n, D.rt, D.nx, whileGo c body D xe n⟩ xe Γ O1 else D.nx Γ O1) xe
def dWhile (c : DT) (body : DSt) : DSt := fun D xe Γ O => ∃ n, whileGo c body D xe n Γ O
theorem ds_while (g : Good X Wx k) {tc : DT} {tb : DSt} {body : List Stmt} (hc : DTt X Wx c tc) (hb : DSs X Wx body tb) : DS X Wx (.While c body [] pos) (dWhile tc tb) := by
  refine ps_imp (fun D σ H ⟨G, α, Γ, O, DD, xe, sl, rel, h, p, xp⟩ => ?_) (ps_while g.ps hc hb)
  obtain ⟨n, h⟩ := h
  refine ⟨fun m σ H => ∃ G1 α1 Γ1 O1, Ex G G1 ∧ Pre α α1 ∧ Sl X.K G1 α1 Γ1 σ ∧ Rel X.K X.mg G1 α1 O1 H ∧ whileGo tc tb DD xe m Γ1 O1, ⟨n, G, α, Γ, O, Ex.refl _, Pre.refl _, sl, rel, h⟩, ?_⟩
  rintro m σ1 H1 ⟨G1, α1, Γ1, O1, e1, p1, sl1, rel1, h1⟩
  cases m with
  | zero => exact h1.elim
  | succ m =>
    refine ⟨G1, α1, Γ1, O1, _, xe, sl1, rel1, h1, fun b O2 h2 G2 α2 H2 e2 p2 rel2 => ?_, xp.mono e1 p1⟩
    dsimp only at h2 ⊢
    have e12 := e1.trans e2
    have p12 := p1.trans p2
    split at h2
    · next c =>
      rw [if_pos c]
      refine ⟨fun σ3 H3 => ∃ G3 α3 Γ3 O3, Ex G G3 ∧ Pre α α3 ∧ Sl X.K G3 α3 Γ3 σ3 ∧ Rel X.K X.mg G3 α3 O3 H3 ∧ whileGo tc tb DD xe m Γ3 O3, fun σ' H' hN => ⟨m, Nat.lt_succ_self _, hN⟩, ?_⟩
      refine ⟨G2, α2, Γ1, O2, _, xe, sl1.mono e2 p2, rel2, h2, ⟨fun Γ5 O5 h5 σ5 G5 α5 H5 e5 p5 rel5 sl5 => ⟨G5, α5, Γ5, O5, e12.trans e5, p12.trans p5, sl5, rel5, h5⟩, p.rt.mono e12 p12, p.nx.mono e12 p12, fun Γ5 O5 h5 σ5 G5 α5 H5 e5 p5 rel5 sl5 => ⟨G5, α5, Γ5, O5, e12.trans e5, p12.trans p5, sl5, rel5, h5⟩⟩, xp.mono e12 p12⟩
    · next c =>
      rw [if_neg c]
      exact p.nx _ _ h2 _ _ _ _ e12 p12 rel2 (sl1.mono e2 p2)
end
end Dl
namespace Dl
open PySem PySem.Spec PyProof.Rows L2
variable [TabsC]
section
variable {X : Cx} {Wx : WX} {k : Nat} {a b c e : Expr} {wa wb wc we : DEx} {pos p2 : Pos} {t u : DSt} {st : Stmt} {rest : List Stmt}
/-! #### list comprehensions -/
abbrev W0 : WX := fun _ _ _ _ => False
abbrev X0 : DX := fun _ _ _ => False
theorem xp0 {K : Fg} {mg : Str → Option Value} {G : Hp} {α : Al} {Wx : WX} : XPost K mg G α X0 Wx := fun _ _ _ z => z.elim
theorem Good.blk {s : Shared} {H : Hp} {scope : Scope} {cenv : Env} {fp : List Addr} (g : Good X Wx k) : Good (X.blk s H scope cenv fp) W0 k := ⟨takesN0, PassesOwn.never, g.rm, g.calm, g.nd⟩
def dYes : DT := fun _ O R _ => R true O
/-- the slots of the comprehension's own names forgotten -/
def wipeG (Γ : Gm) : List Nat → Gm
  | [] => Γ
  | v :: vs => (wipeG Γ vs).set v none
theorem sl_wipe {K : Fg} {G : Hp} {α : Al} {Γ : Gm} {σ : L2.St} (h : Sl K G α Γ σ) : ∀ own : List Nat, Sl K G α (wipeG Γ own) (wipe σ own)
  | [] => h
  | v :: vs => (sl_wipe h vs).forget v none
theorem wipe_wipe (σ : L2.St) : ∀ own : List Nat, wipe (wipe σ own) own = wipe σ own
  | [] => rfl
  | v :: vs => by
    show wipe ((wipe σ vs).set v none) (v :: vs) = _
    rw [wipe_set (v := none) (List.mem_cons_self)]
    show (wipe (wipe σ vs) vs).set v none = (wipe σ vs).set v none
    rw [wipe_wipe σ vs]
def lcGo (ok : Oh → Prop) (t : Tg) (tt : DT) (we : DEx) (Γ : Gm) (fin : List PyData → Oh → Prop) : List W → List PyData → Oh → Prop
  | [], acc, O => ok O ∧ fin acc O
  | x :: r, acc, O => ok O ∧ t.put x Γ fun Γ1 => tt Γ1 O (fun b O1 => if b = true then we Γ1 O1 (fun y O2 => match y with
      | .d z => acc.length < 1000000 ∧ lcGo ok t tt we Γ fin r (acc ++ [z]) O2
      | _ => False) X0 else lcGo ok t tt we Γ fin r acc O1) X0
/-- [e for t in w if tt], a list that never changes -/
def dLc (w : DI) (t : Tg) (tt : DT) (we : DEx) (own : List Nat) : DEx := fun Γ O R xe => w Γ O (fun xs ok O1 => lcGo ok t tt we (wipeG Γ own) (fun acc O2 => R (.d (.list acc)) O2) xs [] O1) xe
def DTs (X : Cx) (ifs : List Expr) (tt : DT) : Prop := PTs X ifs (liftT X.K X.mg W0 tt)
theorem dts_nil : DTs X [] dYes := by
  refine ⟨fun pins s σ H Q I h => ?_⟩
  obtain ⟨G, α, Γ, O, R, xe, sl, rel, h, p, xp⟩ := h
  exact (pts_nil (X := X)).run pins s σ H Q I (p.here h rel)
theorem dts_one {c : Expr} {t : DT} (h : DTt X W0 c t) : DTs X [c] t := pts_one h
theorem lift_lcG {K : Fg} {mg : Str → Option Value} {w : DI} {t : Tg} {tt : DT} {we : DEx} {own : List Nat} (hs : t.sub own = true) {σ : L2.St} {H : Hp} {Q : VK} {G : Hp} {α : Al} {Γ : Gm} {O : Oh} {xe : DX} {fin : List PyData → Oh → Prop}
    (sl : Sl K G α Γ σ) (rel : Rel K mg G α O H) (xp : XPost K mg G α xe Wx) (h : w Γ O (fun xs ok O1 => lcGo ok t tt we (wipeG Γ own) fin xs [] O1) xe)
    (hq : ∀ acc O2 G2 as2 H2 vs D, Ex G G2 → α.as <+: as2 → RpL K G2 vs acc → Rel K mg G2 ⟨as2, (D, .lst vs) :: α.hid⟩ O2 H2 → (∀ q ∈ α.hid, q.1 ≠ D) → fin acc O2 → Q (.ref D) H2) :
    tLc (liftI K mg Wx w) (t.g K) (liftT K mg W0 tt) (liftE K mg W0 we) own σ H Q := by
  refine ⟨G, α, Γ, O, _, xe, sl, rel, h, xp, fun xs ok O1 h1 J G1 α1 H1 e1 p1 rel1 sim D hD => ?_⟩
  have slw : Sl K G1 α1 (wipeG Γ own) (wipe σ own) := sl_wipe (sl.mono e1 p1) own
  have hη : ∀ q ∈ α1.hid, q.1 ≠ D := fun q hq => ne_of_none (rel1.hd q hq).1 hD
  -- the list that is made is hidden at D
  refine ⟨fun i m H => m = xs.length - i ∧ i ≤ xs.length ∧ ∃ G2 as2 O2 acc vs, Ex G1 G2 ∧ α1.as <+: as2 ∧ RpL K G2 vs acc ∧ Rel K mg G2 ⟨as2, (D, .lst vs) :: α1.hid⟩ O2 H ∧ lcGo ok t tt we (wipeG Γ own) fin (xs.drop i) acc O2,
    ⟨xs.length, by simp, Nat.zero_le _, G1, α1.as, O1, [], [], Ex.refl _, List.prefix_refl _, .nil, rel1.hidden hD ⟨(fun b z => by cases z), (fun b z => by cases z)⟩, h1⟩, ?_⟩
  rintro i m H2 ⟨rfl, hi, G2, as2, O2, acc, vs, e2, p2, racc, rel2, h2⟩
  by_cases hl : i < xs.length
  · rw [List.drop_eq_getElem_cons hl] at h2
    obtain ⟨ok2, h2⟩ := h2
    obtain ⟨hgo, hy⟩ := (sim i G2 _ O2 H2 e2 p2 rel2 ok2).2 xs[i] (List.getElem?_eq_getElem hl)
    refine .inr ⟨hgo, fun H3 => ∃ G3 as3 O3 acc vs, Ex G1 G3 ∧ α1.as <+: as3 ∧ RpL K G3 vs acc ∧ Rel K mg G3 ⟨as3, (D, .lst vs) :: α1.hid⟩ O3 H3 ∧ lcGo ok t tt we (wipeG Γ own) fin (xs.drop (i + 1)) acc O3,
      fun H' hN => ⟨xs.length - (i + 1), by omega, rfl, hl, hN⟩, fun x H3 y => ?_⟩
    obtain ⟨G3, e3, rel3, rv3⟩ := hy x H3 y
    refine Tg.put_ok t rel3 (slw.mono' (α' := ⟨as2, (D, .lst vs) :: α1.hid⟩) (e2.trans e3) p2) rv3 h2 fun Γ4 σ4 h4 sl4 w4 => ?_
    refine ⟨(w4 own hs).trans (wipe_wipe σ own), ⟨G3, _, Γ4, O2, _, X0, sl4, rel3, h4, fun b O5 h5 G5 α5 H5 e5 p5 rel5 => ?_, xp0⟩⟩
    obtain ⟨as5, hid5⟩ := α5
    obtain ⟨p5a, p5b⟩ := p5
    have p5b : hid5 = (D, .lst vs) :: α1.hid := p5b
    subst p5b
    dsimp only at h5 ⊢
    split at h5
    · next cb =>
      rw [if_pos cb]
      refine ⟨G5, _, Γ4, O5, _, X0, sl4.mono' (α' := ⟨as5, (D, .lst vs) :: α1.hid⟩) e5 p5a, rel5, h5, fun y O6 h6 v6 G6 α6 H6 e6 p6 rel6 r6 => ?_, xp0⟩
      obtain ⟨as6, hid6⟩ := α6
      obtain ⟨p6a, p6b⟩ := p6
      have p6b : hid6 = (D, .lst vs) :: α1.hid := p6b
      subst p6b
      try dsimp only at h6 ⊢
      split at h6
      · next z =>
        have hD6 : H6 D = some (.lst vs) := (rel6.hd (D, .lst vs) List.mem_cons_self).1
        have racc6 : RpL K G6 vs acc := racc.mono (e3.trans (e5.trans e6))
        refine ⟨vs, hD6, by rw [racc6.length]; exact szlt h6.1, G6, as6, O6, acc ++ [z], vs ++ [v6], e2.trans (e3.trans (e5.trans e6)), p2.trans (p5a.trans p6a), racc6.append (.cons r6 .nil), ?_, h6.2⟩
        exact Rel.rehide (α := ⟨as6, []⟩) rel6 ⟨(fun b z => by cases z), (fun b z => by cases z)⟩ hη
      · exact h6.elim
    · next cb =>
      rw [if_neg cb]
      exact ⟨G5, as5, O5, acc, vs, e2.trans (e3.trans e5), p2.trans p5a, racc.mono (e3.trans e5), rel5, h5⟩
  · have ei : i = xs.length := by omega
    subst ei
    rw [List.drop_length] at h2
    refine .inl ⟨(sim _ G2 _ O2 H2 e2 p2 rel2 h2.1).1 (Nat.le_refl _), ?_⟩
    rw [p1.2] at rel2 hη
    exact hq _ _ _ _ _ _ _ (e1.trans e2) (p1.1.trans p2) racc rel2 hη h2.2
theorem lift_lc {K : Fg} {mg : Str → Option Value} {w : DI} {t : Tg} {tt : DT} {we : DEx} {own : List Nat} (hs : t.sub own = true) {σ : L2.St} {H : Hp} {Q : VK} (h : liftE K mg Wx (dLc w t tt we own) σ H Q) :
    tLc (liftI K mg Wx w) (t.g K) (liftT K mg W0 tt) (liftE K mg W0 we) own σ H Q := by
  obtain ⟨G, α, Γ, O, R, xe, sl, rel, h, p, xp⟩ := h
  refine lift_lcG hs sl rel xp h fun acc O2 G2 as2 H2 vs D e2 p2 racc rel2 hη hf => ?_
  have g2 : G2 D = none := (rel2.hd (D, .lst vs) List.mem_cons_self).2.1
  have rel3 := Rel.show (α := ⟨as2, []⟩) rel2 hη
  exact p _ _ hf _ _ ⟨as2, α.hid⟩ _ (e2.trans (Ex.new g2)) ⟨p2, rfl⟩ rel3 (.lst upd_same (racc.mono (Ex.new g2)))
/-- a list that is made, and will change -/
def dLcC (w : DI) (t : Tg) (tt : DT) (we : DEx) (own : List Nat) : DEx := fun Γ O R xe => w Γ O (fun xs ok O1 => lcGo ok t tt we (wipeG Γ own) (fun acc O2 => R (.c O2.length) (O2 ++ [.lst (acc.map W.d)])) xs [] O1) xe
theorem de_lc (g : Good X Wx k) {elt tg iter : Expr} {ifs : List Expr} {scope : Scope} {own : List (Str × Nat)} {w : DI} {tt : DT} (t : Tg) (hs' : t.sub (own.map (·.2)) = true) (hi : DIt X Wx tg iter w) (ok : BlkOk X.N X.env.scope scope own)
    (hg : ∀ (s : Shared) (H : Hp) (C : Addr) (cl : List (Str × Addr)) (fp : List Addr), PG (X.blk s H scope (compEnvC scope cl C X.env) fp) tg (t.g X.K))
    (ht : ∀ (s : Shared) (H : Hp) (C : Addr) (cl : List (Str × Addr)) (fp : List Addr), Good (X.blk s H scope (compEnvC scope cl C X.env) fp) W0 k → DTs (X.blk s H scope (compEnvC scope cl C X.env) fp) ifs tt)
    (he : ∀ (s : Shared) (H : Hp) (C : Addr) (cl : List (Str × Addr)) (fp : List Addr), Good (X.blk s H scope (compEnvC scope cl C X.env) fp) W0 k → DE (X.blk s H scope (compEnvC scope cl C X.env) fp) W0 elt we) (hs : ∀ x, foldedSetIterable iter X.env x = pure x := by intro _; rfl) :
    DE X Wx (.ListComp elt [⟨tg, iter, ifs, 0⟩] scope pos) (dLc w t tt we (own.map (·.2))) :=
  pe_imp (fun σ H Q h => lift_lc hs' h) (pe_lc g.calm g.nd hi ok hg (fun s H C cl fp => ht s H C cl fp g.blk) (fun s H C cl fp => he s H C cl fp g.blk) hs)
theorem ds_setLc (g : Good X Wx k) {i : Nat} {y : Str} {py spos : Pos} {elt tg iter : Expr} {ifs : List Expr} {scope : Scope} {own : List (Str × Nat)} {w : DI} {tt : DT} (hy : X.N[i]? = some y) (hyl : X.env.scope.names.lookup y = some .local)
    (hsw : swapsWith (.ListComp elt [⟨tg, iter, ifs, 0⟩] scope pos) (some (.Name y py)) spos.line X.env = pure true) (t : Tg) (hs' : t.sub (own.map (·.2)) = true) (hi : DIt X Wx tg iter w) (ok : BlkOk X.N X.env.scope scope own)
    (hg : ∀ (s : Shared) (H : Hp) (C : Addr) (cl : List (Str × Addr)) (fp : List Addr), PG (X.blk s H scope (compEnvC scope cl C X.env) fp) tg (t.g X.K))
    (ht : ∀ (s : Shared) (H : Hp) (C : Addr) (cl : List (Str × Addr)) (fp : List Addr), Good (X.blk s H scope (compEnvC scope cl C X.env) fp) W0 k → DTs (X.blk s H scope (compEnvC scope cl C X.env) fp) ifs tt)
    (he : ∀ (s : Shared) (H : Hp) (C : Addr) (cl : List (Str × Addr)) (fp : List Addr), Good (X.blk s H scope (compEnvC scope cl C X.env) fp) W0 k → DE (X.blk s H scope (compEnvC scope cl C X.env) fp) W0 elt we) (hs : ∀ x, foldedSetIterable iter X.env x = pure x := by intro _; rfl) :
    DS X Wx (.Assign [.Name y py] (.ListComp elt [⟨tg, iter, ifs, 0⟩] scope pos) spos) (dAsg (dLc w t tt we (own.map (·.2))) (.nm i)) := by
  refine ps_imp (fun D σ H h => ?_) (ps_setLc (tt := liftT X.K X.mg W0 tt) (te := liftE X.K X.mg W0 we) g.calm g.nd hy hyl hsw hi ok hg (fun s H C cl fp => ht s H C cl fp g.blk) (fun s H C cl fp => he s H C cl fp g.blk) hs)
  exact lift_lc hs' (lift_asg h)
/-! #### calls of defs -/
def dCall (f : DFn) (ws : DA) : DEx := fun Γ O R xe => ws Γ O (fun vs O1 => f vs O1 R fun ex O2 => xe ex Γ O2) xe
variable {f : Addr} {fd : FuncData} {ps : List Str} {df : DFn} {x : Str} {p : Pos} {es : List Expr} {ws : DA}
theorem lift_call {K : Fg} {mg : Str → Option Value} {σ : L2.St} {H : Hp} {Q : VK} (h : liftE K mg Wx (dCall df ws) σ H Q) : tCallS (liftF K mg df) (WE Wx) (liftA K mg Wx ws) σ H Q := by
  obtain ⟨G, α, Γ, O, R, xe, sl, rel, h, p, xp⟩ := h
  refine ⟨G, α, Γ, O, _, xe, sl, rel, h, fun vs O1 h1 us G1 α1 H1 e1 p1 rel1 r1 => ?_, xp⟩
  exact ⟨G1, α1, vs, O1, R, _, r1, rel1, h1, p.mono e1 p1, fun ex O2 h2 cls d G2 α2 H2 e2 p2 rel2 xo => xp _ _ _ h2 _ _ _ _ _ _ (e1.trans e2) (p1.trans p2) rel2 (sl.mono (e1.trans e2) (p1.trans p2)) xo⟩
theorem de_callX {CX : CXT} (g : Good X Wx k) (hp : ∀ σ, PassesAt CX X σ (WE Wx σ)) {j : Nat} (F : FnOk X.prog X.w X.K X.mg X.base CX j f fd ps (liftF X.K X.mg df)) (hj : j ≤ k) (hm : X.mg x = some (.ref f)) (hk : PySem.W.keepIn X.K (.ref f) = true) (hb : Binds X.K fd ps []) (ha : DAs X Wx (e :: es) ws)
    (hg : Gl X x := by rfl) (hdb : (x == ("__debug__" : Str)) = false := by decide) (he : starEach (e :: es) X.env = (false, eval e X.env) :: starEach es X.env := by rfl) (hpl : (backTo pos (starEach es X.env)).any (·.1) = false := by rfl) :
    DE X Wx (.Call (.Name x p) (e :: es) [] pos) (dCall df ws) :=
  pe_imp (fun σ H Q h => lift_call h) (pe_callS F (g.rm.mono hj) hg hm hk hb hp ha hdb he hpl)
theorem de_call (g : Good X Wx k) {j : Nat} (F : FnOk X.prog X.w X.K X.mg X.base (L2N.CX X.prog X.w) j f fd ps (liftF X.K X.mg df)) (hj : j ≤ k) (hm : X.mg x = some (.ref f)) (hk : PySem.W.keepIn X.K (.ref f) = true) (hb : Binds X.K fd ps []) (ha : DAs X Wx (e :: es) ws)
    (hg : Gl X x := by rfl) (hdb : (x == ("__debug__" : Str)) = false := by decide) (he : starEach (e :: es) X.env = (false, eval e X.env) :: starEach es X.env := by rfl) (hpl : (backTo pos (starEach es X.env)).any (·.1) = false := by rfl) :
    DE X Wx (.Call (.Name x p) (e :: es) [] pos) (dCall df ws) :=
  de_callX g (fun σ => L2N.passAt g.tk σ) F hj hm hk hb ha hg hdb he hpl
/-! #### a def -/
/-- the cells that came beside are forgotten: nothing came, or what stands is closed -/
def Fin (n : Nat) (O' : Oh) (k : Oh → Prop) : Prop := (O'.length = n ∧ k O') ∨ (Clo n (O'.take n) = true ∧ k (O'.take n))
/-- the answer: a cell is told as a list that never changes -/
def dAns (n : Nat) (R : DK) (r : W) (O' : Oh) : Prop := match r with
  | .c j => if j < n then Fin n O' (R (.c j)) else match O'[j]? with
    | some (.lst ws) => match datas ws with
      | some ds => Fin n O' (R (.d (.list ds)))
      | none => False
    | _ => False
  | .t xs => (W.t xs).lt n = true ∧ Fin n O' (R (.t xs))
  | _ => Fin n O' (R r)
def startG (N : Nat) (ws : List W) : Gm := ws.map some ++ List.replicate (N - ws.length) none
def dDef (N n : Nat) (b : DSt) : DFn := fun ws O R xe => ws.length = n ∧ (Clo O.length O = true → b ⟨fun _ O' => Fin O.length O' (R (.d .none)), dAns O.length R, fun _ _ => False, fun _ _ => False⟩ (fun ex _ O' => Fin O.length O' (xe ex)) (startG N ws) O)
/-- .. a new cell is the answer -/
def dAnsC (n : Nat) (R : DK) (r : W) (O' : Oh) : Prop := match r with
  | .c j => n ≤ j ∧ Clo n (O'.take n) = true ∧ ∃ c, O'[j]? = some c ∧ c.lt n = true ∧ R (.c n) (O'.take n ++ [c])
  | .t xs => (W.t xs).lt n = true ∧ Fin n O' (R (.t xs))
  | _ => Fin n O' (R r)
def dDefC (N n : Nat) (b : DSt) : DFn := fun ws O R xe => ws.length = n ∧ (Clo O.length O = true → b ⟨fun _ O' => Fin O.length O' (R (.d .none)), dAnsC O.length R, fun _ _ => False, fun _ _ => False⟩ (fun ex _ O' => Fin O.length O' (xe ex)) (startG N ws) O)
theorem sl_start {K : Fg} {G : Hp} {α : Al} {vs : List V} {ws : List W} {N : List Str} (r : RvL K G α vs ws) : Sl K G α (startG N.length ws) (L2.start N vs) := by
  have hl := r.len
  refine ⟨?_, fun i w h => ?_⟩
  · unfold startG L2.start
    rw [List.length_append, List.length_append, List.length_map, List.length_map, List.length_replicate, List.length_replicate, hl]
  · unfold startG at h
    unfold L2.start
    by_cases hi : i < ws.length
    · rw [List.getElem?_append_left (by rw [List.length_map]; exact hi), List.getElem?_map] at h
      cases hw : ws[i]? with
      | none => rw [hw] at h; cases h
      | some w' =>
        rw [hw] at h
        cases h
        obtain ⟨v, hv, rv⟩ := r.get hw
        refine ⟨v, ?_, rv⟩
        rw [List.getElem?_append_left (by rw [List.length_map]; omega), List.getElem?_map, hv]
        rfl
    · rw [List.getElem?_append_right (by rw [List.length_map]; omega)] at h
      have := List.getElem?_eq_some_iff.mp h
      obtain ⟨l, e⟩ := this
      rw [List.getElem_replicate] at e
      cases e
theorem fin_ok {K : Fg} {mg : Str → Option Value} {G' : Hp} {α α' : Al} {O O' : Oh} {H' : Hp} {k : Oh → Prop} (rel : α.as.length = O.length) (p : Pre α α') (rel' : Rel K mg G' α' O' H') (h : Fin O.length O' k) :
    ∃ α'' O'', Pre α α'' ∧ Rel K mg G' α'' O'' H' ∧ k O'' ∧ (∀ v r, Rv K G' α' v r → r.lt O.length = true → Rv K G' α'' v r) := by
  rcases h with ⟨_, h⟩ | ⟨c, h⟩
  · exact ⟨α', O', p, rel', h, fun _ _ r _ => r⟩
  · refine ⟨α'.cut O.length, _, ⟨?_, p.2⟩, rel'.cut c, h, fun v r rv l => rv.cut l⟩
    obtain ⟨t, ht⟩ := p.1
    show α.as <+: α'.as.take O.length
    rw [← ht, ← rel, List.take_left]
    exact List.prefix_refl _
/-- how a def's body gives its promise -/
def MkFn (P : Program) (w : World) (K : Fg) (mg : Str → Option Value) (base : Heap) (CX : CXT) (qual : Str) (st : Stmt) (N ps : List Str) (k : Nat) (f : Addr) (fd : FuncData) : Prop :=
  ∀ (sp : Sp), (∀ vs H Q E, sp vs H Q E → vs.length = ps.length) →
    (∀ (cdv : Value) (A : Around) (outer : List Env) (s : Shared) (H : Hp) (vs : List V) (Q : VK) (E : XK), Room k (A.deeper (envOfC qual (defScope st) s.heap.objs.size f cdv)) → sp vs H Q E →
      ∃ t, PSs (cxOf CX P w K mg base N qual (defScope st) f cdv A outer s H E) (defBody st) t ∧ t { nx := fun _ H' => Q .non H', rt := Q } (L2.start N vs) H) → FnOk P w K mg base CX (k + 1) f fd ps sp
theorem Fun.mk {CX : CXT} {P : Program} {w : World} {K : Fg} {mg : Str → Option Value} {base : Heap} {x qual : Str} {st : Stmt} {f : Addr} {fd : FuncData} {N ps : List Str} {k : Nat} (F : Fun K x qual st f fd) (S : FnScope N ps (defScope st)) : MkFn P w K mg base CX qual st N ps k f fd := by
  intro sp len hbody
  obtain ⟨oc, od, kV, doc, pm, an, cdv, ct, osl, rfl, lk, hcd⟩ := F.ex
  exact fn_of lk hcd S len fun A outer s H vs Q E hr hsp => hbody cdv A outer s H vs Q E hr hsp
theorem def_in {K : Fg} {mg : Str → Option Value} {N ps : List Str} {b : DSt} {vs : List V} {H : Hp} {Q : VK} {E : XK} (h : liftF K mg (dDef N.length ps.length b) vs H Q E) :
    liftS K mg (fun cls d _ H => E cls d H) b { nx := fun _ H' => Q .non H', rt := Q } (L2.start N vs) H := by
  obtain ⟨G, α, ws, O, R, xe, r, rel, ⟨hl, hw⟩, p, xp⟩ := h
  refine ⟨G, α, startG N.length ws, O, _, _, sl_start r, rel, hw rel.clo, ⟨?_, ?_, fun _ _ z => z.elim, fun _ _ z => z.elim⟩, ?_⟩
  · intro Γ' O' h' σ' G' α' H' e' p' rel' _
    obtain ⟨α'', O'', p'', rel'', q, _⟩ := fin_ok rel.len p' rel' h'
    exact p _ _ q _ _ _ _ e' p'' rel'' .non
  · intro r' O' h' v G' α' H' e' p' rel' rv'
    have h' : dAns O.length R r' O' := h'
    have rel' : Rel K mg G' α' O' H' := rel'
    have rv' : Rv K G' α' v r' := rv'
    show Q v H'
    cases r' with
    | d x =>
      obtain ⟨α'', O'', p'', rel'', q, c⟩ := fin_ok rel.len p' rel' (show Fin O.length O' (R (.d x)) from h')
      exact p _ _ q _ _ _ _ e' p'' rel'' (c _ _ rv' rfl)
    | k x =>
      obtain ⟨α'', O'', p'', rel'', q, c⟩ := fin_ok rel.len p' rel' (show Fin O.length O' (R (.k x)) from h')
      exact p _ _ q _ _ _ _ e' p'' rel'' (c _ _ rv' rfl)
    | p x =>
      obtain ⟨α'', O'', p'', rel'', q, c⟩ := fin_ok rel.len p' rel' (show Fin O.length O' (R (.p x)) from h')
      exact p _ _ q _ _ _ _ e' p'' rel'' (c _ _ rv' rfl)
    | q x y =>
      obtain ⟨α'', O'', p'', rel'', q, c⟩ := fin_ok rel.len p' rel' (show Fin O.length O' (R (.q x y)) from h')
      exact p _ _ q _ _ _ _ e' p'' rel'' (c _ _ rv' rfl)
    | o x y z =>
      obtain ⟨α'', O'', p'', rel'', q, c⟩ := fin_ok rel.len p' rel' (show Fin O.length O' (R (.o x y z)) from h')
      exact p _ _ q _ _ _ _ e' p'' rel'' (c _ _ rv' rfl)
    | t x =>
      have h' : (W.t x).lt O.length = true ∧ Fin O.length O' (R (.t x)) := h'
      obtain ⟨α'', O'', p'', rel'', q, c⟩ := fin_ok rel.len p' rel' h'.2
      exact p _ _ q _ _ _ _ e' p'' rel'' (c _ _ rv' h'.1)
    | c j =>
      unfold dAns at h'
      dsimp only at h'
      split at h'
      · next hj =>
        obtain ⟨α'', O'', p'', rel'', q, c⟩ := fin_ok rel.len p' rel' h'
        exact p _ _ q _ _ _ _ e' p'' rel'' (c _ _ rv' (decide_eq_true hj))
      · next hj =>
        split at h'
        · next ws' ej =>
          split at h'
          · next ds ed =>
            obtain ⟨a, ha, rfl⟩ := rv'
            obtain ⟨g0, vs', hH, rl⟩ := rel'.at_ j a _ ha ej
            have rel2 := rel'.freeze ha ej hH g0
            rw [datas_eq ed] at rl
            have rd := rl.toD
            have h2 : Fin O.length (O'.set j .gone) (R (.d (.list ds))) := by
              have hjl : j < O'.length := (List.getElem?_eq_some_iff.mp ej).1
              rcases h' with ⟨z, _⟩ | ⟨z1, z2⟩
              · omega
              · refine .inr ?_
                rw [List.take_set_of_le (by omega)]
                exact ⟨z1, z2⟩
            obtain ⟨α'', O'', p'', rel'', q, c⟩ := fin_ok rel.len p' rel2 h2
            have ee : Ex G' (upd G' a (.lst vs')) := Ex.new g0
            exact p _ _ q _ _ _ _ (e'.trans ee) p'' rel'' (.lst upd_same (rd.mono ee))
          · exact h'.elim
        · exact h'.elim
  · intro ex Γ' O' h' cls d σ' G' α' H' e' p' rel' _ xo
    obtain ⟨α'', O'', p'', rel'', q, _⟩ := fin_ok rel.len p' rel' h'
    exact xp _ _ q _ _ _ _ _ e' p'' rel'' xo
theorem ok_defG {CX : CXT} {P : Program} {w : World} {K : Fg} {mg : Str → Option Value} {base : Heap} {qual : Str} {st : Stmt} {f : Addr} {fd : FuncData} {N ps : List Str} {k : Nat} {b : DSt} (mk : MkFn P w K mg base CX qual st N ps k f fd)
    (hb : ∀ (cdv : Value) (A : Around) (outer : List Env) (s : Shared) (H : Hp) (E : XK), Room k (A.deeper (envOfC qual (defScope st) s.heap.objs.size f cdv)) →
      DSs (cxOf CX P w K mg base N qual (defScope st) f cdv A outer s H E) (fun cls d _ H => E cls d H) (defBody st) b) :
    FnOk P w K mg base CX (k + 1) f fd ps (liftF K mg (dDef N.length ps.length b)) := by
  refine mk _ (fun vs H Q E h => ?_) (fun cdv A outer s H vs Q E hr h => ?_)
  · obtain ⟨G, α, ws, O, R, xe, r, rel, ⟨hl, _⟩, _⟩ := h
    rw [r.len, hl]
  · exact ⟨_, hb cdv A outer s H E hr, def_in h⟩
theorem ok_def {P : Program} {w : World} {K : Fg} {mg : Str → Option Value} {base : Heap} {x qual : Str} {st : Stmt} {f : Addr} {fd : FuncData} {N ps : List Str} {k : Nat} {b : DSt} (F : Fun K x qual st f fd) (S : FnScope N ps (defScope st))
    (hb : ∀ (cdv : Value) (A : Around) (outer : List Env) (s : Shared) (H : Hp) (E : XK), Good (cxOf (L2N.CX P w) P w K mg base N qual (defScope st) f cdv A outer s H E) (fun cls d _ H => E cls d H) k →
      DSs (cxOf (L2N.CX P w) P w K mg base N qual (defScope st) f cdv A outer s H E) (fun cls d _ H => E cls d H) (defBody st) b) :
    FnOk P w K mg base (L2N.CX P w) (k + 1) f fd ps (liftF K mg (dDef N.length ps.length b)) :=
  ok_defG (Fun.mk F S) fun cdv A outer s H E hr => hb cdv A outer s H E ⟨L2N.takes_of rfl rfl rfl rfl, passes_of rfl, hr, rfl, S.nd⟩
theorem ok_defZ {P : Program} {w : World} {K : Fg} {mg : Str → Option Value} {base : Heap} {x qual : Str} {st : Stmt} {f : Addr} {fd : FuncData} {N ps : List Str} {k : Nat} {b : DSt} (F : Fun K x qual st f fd) (S : FnScope N ps (defScope st))
    (hb : ∀ (cdv : Value) (A : Around) (outer : List Env) (s : Shared) (H : Hp) (E : XK), Good (cxOf (LM.CX true P w) P w K mg base N qual (defScope st) f cdv A outer s H E) (fun cls d _ H => E cls d H) k → LM.Takes true (cxOf (LM.CX true P w) P w K mg base N qual (defScope st) f cdv A outer s H E) (fun cls d _ H => E cls d H) →
      DSs (cxOf (LM.CX true P w) P w K mg base N qual (defScope st) f cdv A outer s H E) (fun cls d _ H => E cls d H) (defBody st) b) :
    FnOk P w K mg base (LM.CX true P w) (k + 1) f fd ps (liftF K mg (dDef N.length ps.length b)) :=
  ok_defG (Fun.mk F S) fun cdv A outer s H E hr => hb cdv A outer s H E ⟨LM.tn_of (LM.takes_of rfl rfl rfl rfl), passes_of rfl, hr, rfl, S.nd⟩ (LM.takes_of rfl rfl rfl rfl)
/-- of the cells that came, one stays -/
theorem Rel.pick {K : Fg} {mg : Str → Option Value} {G : Hp} {α : Al} {O : Oh} {H : Hp} {n j : Nat} {p : Addr} {c : Cell} (R : Rel K mg G α O H) (hp : α.as[j]? = some p) (hj : n ≤ j) (ej : O[j]? = some c) (l : Clo n (O.take n) = true) (lc : c.lt n = true) : Rel K mg G ((α.cut n).push p) (O.take n ++ [c]) H := by
  have hz : n ≤ α.as.length := Nat.le_trans hj (Nat.le_of_lt (List.getElem?_eq_some_iff.mp hp).1)
  have hm : p ∈ α.as := List.mem_of_getElem? hp
  have sub : ∀ a ∈ ((α.cut n).push p).as, a ∈ α.as := fun a ha => by
    rcases List.mem_append.mp ha with h | h
    · exact List.mem_of_mem_take h
    · rw [List.mem_singleton.mp h]; exact hm
  have key : ∀ (k : Nat) (a : Addr) (c : Cell), α.as[k]? = some a → O[k]? = some c → c.lt n = true → COk K mg G ((α.cut n).push p) H a c := by
    intro k a c h1 h2 hc
    have z := R.at_ k a c h1 h2
    have e : Ex G G := Ex.refl _
    have pp : Pre (α.cut n) ((α.cut n).push p) := Pre.push
    cases c with
    | lst xs => obtain ⟨h0, vs, q, h⟩ := z; exact ⟨h0, vs, q, RvL.mono e pp (h.cut hc)⟩
    | dic xs => obtain ⟨h0, vs, q, h⟩ := z; exact ⟨h0, vs, q, RK.mono e pp (h.cut hc)⟩
    | dct xs => obtain ⟨h0, vs, q, h⟩ := z; exact ⟨h0, vs, q, RK.mono e pp (h.cut hc)⟩
    | ldic od es xs => obtain ⟨h0, q, h⟩ := z; exact ⟨h0, q, RK.mono e pp (h.cut hc)⟩
    | ldct od es xs => obtain ⟨h0, q, h⟩ := z; exact ⟨h0, q, RK.mono e pp (h.cut hc)⟩
    | ins C xs => obtain ⟨h0, Ca, dx, es, q1, q2, q3, q4, q5, h⟩ := z; exact ⟨h0, Ca, dx, es, q1, q2, q3, q4, fun m => q5 (sub _ m), RK.mono e pp (h.cut hc)⟩
    | gone => trivial
  have lt : (α.as.take n).length = n := by rw [List.length_take]; omega
  have lt' : (O.take n).length = n := by rw [List.length_take, ← R.len]; omega
  refine ⟨R.ex, ?_, ?_, fun a ha => R.liv a (sub a ha), fun k a d h1 h2 => ?_, fun q hq => ?_, R.tb.mono (fun _ _ _ _ _ g => g) (fun _ _ h _ _ => h) (fun _ _ _ _ o => ⟨fun z => o.1 (sub _ z), o.2⟩)⟩
  · show (α.as.take n ++ [p]).length = _
    rw [List.length_append, List.length_append, lt, lt']; rfl
  · show (α.as.take n ++ [p]).Nodup
    rw [List.nodup_append]
    refine ⟨R.nd.sublist (List.take_sublist _ _), by simp, fun a ha b hb => ?_⟩
    rw [List.mem_singleton] at hb
    subst hb
    intro z
    subst z
    obtain ⟨i, hi, ei⟩ := List.getElem_of_mem ha
    rw [List.getElem_take] at ei
    rw [lt] at hi
    have e2 : α.as[i]? = α.as[j]? := by rw [hp, ← ei]; exact List.getElem?_eq_getElem _
    have := (List.getElem?_inj (i := i) (by omega) R.nd).mp e2
    omega
  · have h1 : (α.as.take n ++ [p])[k]? = some a := h1
    by_cases hk : k < n
    · rw [List.getElem?_append_left (by omega), List.getElem?_take, if_pos hk] at h1 h2
      refine key k a d h1 h2 ?_
      unfold Clo at l
      rw [List.all_eq_true] at l
      exact l d (List.mem_of_getElem? (show (O.take n)[k]? = some d by rw [List.getElem?_take, if_pos hk]; exact h2))
    · by_cases hk2 : k = n
      · subst hk2
        rw [List.getElem?_append_right (by omega), lt, Nat.sub_self] at h1
        rw [List.getElem?_append_right (by omega), lt', Nat.sub_self] at h2
        cases h1
        cases h2
        exact key j _ _ hp ej lc
      · rw [List.getElem?_eq_none (by rw [List.length_append, lt]; simp; omega)] at h1
        cases h1
  · obtain ⟨q1, q2, q3, q4⟩ := R.hd q hq
    exact ⟨q1, q2, fun z => q3 (sub _ z), q4⟩
theorem def_inC {K : Fg} {mg : Str → Option Value} {N ps : List Str} {b : DSt} {vs : List V} {H : Hp} {Q : VK} {E : XK} (h : liftF K mg (dDefC N.length ps.length b) vs H Q E) :
    liftS K mg (fun cls d _ H => E cls d H) b { nx := fun _ H' => Q .non H', rt := Q } (L2.start N vs) H := by
  obtain ⟨G, α, ws, O, R, xe, r, rel, ⟨hl, hw⟩, p, xp⟩ := h
  refine ⟨G, α, startG N.length ws, O, _, _, sl_start r, rel, hw rel.clo, ⟨?_, ?_, fun _ _ z => z.elim, fun _ _ z => z.elim⟩, ?_⟩
  · intro Γ' O' h' σ' G' α' H' e' p' rel' _
    obtain ⟨α'', O'', p'', rel'', q, _⟩ := fin_ok rel.len p' rel' h'
    exact p _ _ q _ _ _ _ e' p'' rel'' .non
  · intro r' O' h' v G' α' H' e' p' rel' rv'
    have h' : dAnsC O.length R r' O' := h'
    have rel' : Rel K mg G' α' O' H' := rel'
    have rv' : Rv K G' α' v r' := rv'
    show Q v H'
    cases r' with
    | d x =>
      obtain ⟨α'', O'', p'', rel'', q, c⟩ := fin_ok rel.len p' rel' (show Fin O.length O' (R (.d x)) from h')
      exact p _ _ q _ _ _ _ e' p'' rel'' (c _ _ rv' rfl)
    | k x =>
      obtain ⟨α'', O'', p'', rel'', q, c⟩ := fin_ok rel.len p' rel' (show Fin O.length O' (R (.k x)) from h')
      exact p _ _ q _ _ _ _ e' p'' rel'' (c _ _ rv' rfl)
    | p x =>
      obtain ⟨α'', O'', p'', rel'', q, c⟩ := fin_ok rel.len p' rel' (show Fin O.length O' (R (.p x)) from h')
      exact p _ _ q _ _ _ _ e' p'' rel'' (c _ _ rv' rfl)
    | q x y =>
      obtain ⟨α'', O'', p'', rel'', q, c⟩ := fin_ok rel.len p' rel' (show Fin O.length O' (R (.q x y)) from h')
      exact p _ _ q _ _ _ _ e' p'' rel'' (c _ _ rv' rfl)
    | o x y z =>
      obtain ⟨α'', O'', p'', rel'', q, c⟩ := fin_ok rel.len p' rel' (show Fin O.length O' (R (.o x y z)) from h')
      exact p _ _ q _ _ _ _ e' p'' rel'' (c _ _ rv' rfl)
    | t x =>
      have h' : (W.t x).lt O.length = true ∧ Fin O.length O' (R (.t x)) := h'
      obtain ⟨α'', O'', p'', rel'', q, c⟩ := fin_ok rel.len p' rel' h'.2
      exact p _ _ q _ _ _ _ e' p'' rel'' (c _ _ rv' h'.1)
    | c j =>
      obtain ⟨hj, hl, c, ec, lc, q⟩ := h'
      obtain ⟨a, ha, rfl⟩ := rv'
      have rel2 := rel'.pick ha hj ec hl lc
      obtain ⟨t, ht⟩ := p'.1
      have lt : (α'.as.take O.length) = α.as := by rw [← ht, ← rel.len, List.take_left]
      refine p _ _ q _ _ ((α'.cut O.length).push a) _ e' ⟨?_, p'.2⟩ rel2 ⟨a, ?_, rfl⟩
      · show α.as <+: α'.as.take O.length ++ [a]
        rw [lt]
        exact List.prefix_append _ _
      · show (α'.as.take O.length ++ [a])[O.length]? = some a
        rw [lt, List.getElem?_append_right (by rw [rel.len]; exact Nat.le_refl _), rel.len, Nat.sub_self]
        rfl
  · intro ex Γ' O' h' cls d σ' G' α' H' e' p' rel' _ xo
    obtain ⟨α'', O'', p'', rel'', q, _⟩ := fin_ok rel.len p' rel' h'
    exact xp _ _ q _ _ _ _ _ e' p'' rel'' xo
theorem ok_defCG {CX : CXT} {P : Program} {w : World} {K : Fg} {mg : Str → Option Value} {base : Heap} {qual : Str} {st : Stmt} {f : Addr} {fd : FuncData} {N ps : List Str} {k : Nat} {b : DSt} (mk : MkFn P w K mg base CX qual st N ps k f fd)
    (hb : ∀ (cdv : Value) (A : Around) (outer : List Env) (s : Shared) (H : Hp) (E : XK), Room k (A.deeper (envOfC qual (defScope st) s.heap.objs.size f cdv)) →
      DSs (cxOf CX P w K mg base N qual (defScope st) f cdv A outer s H E) (fun cls d _ H => E cls d H) (defBody st) b) :
    FnOk P w K mg base CX (k + 1) f fd ps (liftF K mg (dDefC N.length ps.length b)) := by
  refine mk _ (fun vs H Q E h => ?_) (fun cdv A outer s H vs Q E hr h => ?_)
  · obtain ⟨G, α, ws, O, R, xe, r, rel, ⟨hl, _⟩, _⟩ := h
    rw [r.len, hl]
  · exact ⟨_, hb cdv A outer s H E hr, def_inC h⟩
theorem ok_defC {P : Program} {w : World} {K : Fg} {mg : Str → Option Value} {base : Heap} {x qual : Str} {st : Stmt} {f : Addr} {fd : FuncData} {N ps : List Str} {k : Nat} {b : DSt} (F : Fun K x qual st f fd) (S : FnScope N ps (defScope st))
    (hb : ∀ (cdv : Value) (A : Around) (outer : List Env) (s : Shared) (H : Hp) (E : XK), Good (cxOf (L2N.CX P w) P w K mg base N qual (defScope st) f cdv A outer s H E) (fun cls d _ H => E cls d H) k →
      DSs (cxOf (L2N.CX P w) P w K mg base N qual (defScope st) f cdv A outer s H E) (fun cls d _ H => E cls d H) (defBody st) b) :
    FnOk P w K mg base (L2N.CX P w) (k + 1) f fd ps (liftF K mg (dDefC N.length ps.length b)) :=
  ok_defCG (Fun.mk F S) fun cdv A outer s H E hr => hb cdv A outer s H E ⟨L2N.takes_of rfl rfl rfl rfl, passes_of rfl, hr, rfl, S.nd⟩
end
end Dl
namespace Dl
open PySem PySem.Spec PyProof.Rows L2
variable [TabsC]
/-! #### tuples known to have no dict of their own -/
section
variable {X : Cx}
def rCatF (K : Fg) : R2 := fun x y H Q => ∃ a b xs ys, x = .ref a ∧ y = .ref b ∧ SqT K H a xs ∧ SqT K H b ys ∧ xs.length + ys.length ≤ sizeLine ∧
  (xs = [] → Q (.ref b) H) ∧ (xs ≠ [] → ys = [] → Q (.ref a) H) ∧ (xs ≠ [] → ys ≠ [] → ∀ p ob, H p = none → ob.dict = none → Q (.ref p) (upd H p (.frz ob (.tup (xs ++ ys)))))
theorem op_catF : OpR X (binaryOp .Add) (rCatF X.K) := by
  intro pins s σ H x y v u Q I rx ry h
  obtain ⟨a, b, xs, ys, rfl, rfl, ha, hb, hz, q0, q1, q2⟩ := h
  cases rx
  cases ry
  obtain ⟨its, r1, p1, _⟩ := I.tuple ha
  obtain ⟨its2, r2, p2, _⟩ := I.tuple hb
  by_cases hx : xs = []
  · subst hx
    cases r1
    exact L2.cat_tup0 p1 p2 ⟨.ref b, H, I, rfl, q0 rfl⟩
  · refine HT.cat_tup p1 p2 (fun z => hx (r1.nil_iff.mp z)) (fun z => ⟨.ref a, H, I, rfl, q1 hx (r2.nil_iff.mp z)⟩) (fun z => ?_) (by rw [← r1.length, ← r2.length]; exact hz)
    refine ⟨.ref s.heap.objs.size, _, I.laid (t' := s.toks) (o := .frz { cls := .type "tuple", data := .seq (its ++ its2).toArray } (.tup (xs ++ ys))) (fun b ob q => Heap.get?_push_of_some _ q) (Nat.le_refl _) ?_, rfl, q2 hx (fun w => z (r2.nil_iff.mpr w)) _ _ (I.hok.fresh (Nat.le_refl _)) rfl⟩
    exact ⟨Heap.get?_push_size _ rfl, by rw [List.length_append]; exact hz, _, r1.append r2, IsTup.new _ _⟩
def rTupOf (K : Fg) : List V → Hp → VK → Prop := fun xs H Q => ∃ p ys, xs = [.ref p] ∧ ((SqL K H p ys ∧ ∀ l ob, H l = none → ob.dict = none → Q (.ref l) (upd H l (.frz ob (.tup ys)))) ∨ (SqT K H p ys ∧ Q (.ref p) H))
theorem call_tupOf : CallR X (.type "tuple") (rTupOf X.K) := by
  intro pins s σ H xs us Q I r h
  obtain ⟨p, ys, rfl, h⟩ := h
  obtain ⟨u, rfl, rx⟩ := vals1 r
  cases rx
  rcases h with ⟨hq, q⟩ | ⟨hq, q⟩
  · obtain ⟨its, r', pl, hz⟩ := I.list hq
    have hlen := r'.length
    refine call_tuple_list pl.isList (fun h' kp => ?_) (by simp only [List.size_toArray] <;> omega)
    have I1 : Inv X pins σ H { s with heap := h' } := I.kept (t' := s.toks) kp
    have I2 : Inv X pins σ (upd H h'.objs.size (.frz { cls := .type "tuple", data := .seq its.toArray } (.tup ys))) { s with heap := h'.push { cls := .type "tuple", data := .seq its.toArray } } :=
      I1.laid (t' := s.toks) (fun b o e => Heap.get?_push_of_some _ e) (Nat.le_refl _) (show ObjOk X.prog X.w _ _ _ (.frz _ (.tup ys)) from ⟨Heap.get?_push_size _ rfl, hz, its, r', IsTup.new _ _⟩)
    exact ⟨.ref h'.objs.size, _, I2, rfl, q _ _ (I1.hok.fresh (Nat.le_refl _)) rfl⟩
  · obtain ⟨its, r', pl, hz⟩ := I.tuple hq
    exact call_tuple_same pl ⟨.ref p, H, I, rfl, q⟩
def rSlF (K : Fg) : V → Option Int → Option Int → Hp → VK → Prop := fun x lo hi H Q => ∃ a xs, x = .ref a ∧ SqT K H a xs ∧
  (HT.sIx xs.length 0 lo = 0 ∧ HT.sIx xs.length xs.length hi = xs.length → Q (.ref a) H) ∧ (¬ (HT.sIx xs.length 0 lo = 0 ∧ HT.sIx xs.length xs.length hi = xs.length) → ∀ p ob, H p = none → ob.dict = none → Q (.ref p) (upd H p (.frz ob (.tup (cutV xs lo hi)))))
theorem sl_tupF : SlR X (rSlF X.K) := by
  intro pins s σ H x v vl vu lo hi sl Q I rx hs pl pu h
  obtain ⟨a, xs, rfl, hx, q1, q2⟩ := h
  cases rx
  obtain ⟨its, r, ht, hz⟩ := I.tuple hx
  have hlen : its.toArray.size = xs.length := by rw [List.size_toArray]; exact r.length.symm
  refine ⟨"tuple", _, PyProof.Rows.slot_tuple_getitem.lookup, ht.typeIs, ?_⟩
  by_cases hw : HT.sIx xs.length 0 lo = 0 ∧ HT.sIx xs.length xs.length hi = xs.length
  · exact L2.getItem_tuple_whole ht hs pl pu (by rw [hlen]; exact hw) ⟨.ref a, H, I, rfl, q1 hw⟩
  · refine HT.getItem_tuple_cut ht hs pl pu (by rw [hlen]; exact hw) ?_ (by rw [hlen]; exact hz)
    rw [hlen]
    have ok : ObjOk X.prog X.w (upd H s.heap.objs.size (.frz { cls := .type "tuple", data := .seq ((its.toArray.toList.drop (HT.sIx xs.length 0 lo)).take (HT.sIx xs.length xs.length hi - HT.sIx xs.length 0 lo)).toArray } (.tup (cutV xs lo hi)))) (s.heap.push { cls := .type "tuple", data := .seq ((its.toArray.toList.drop (HT.sIx xs.length 0 lo)).take (HT.sIx xs.length xs.length hi - HT.sIx xs.length 0 lo)).toArray }) s.heap.objs.size (.frz { cls := .type "tuple", data := .seq ((its.toArray.toList.drop (HT.sIx xs.length 0 lo)).take (HT.sIx xs.length xs.length hi - HT.sIx xs.length 0 lo)).toArray } (.tup (cutV xs lo hi))) :=
      ⟨Heap.get?_push_size _ rfl, Nat.le_trans (cutV_length xs lo hi) hz, _, (r.drop (HT.sIx xs.length 0 lo)).take (HT.sIx xs.length xs.length hi - HT.sIx xs.length 0 lo), IsTup.new _ _⟩
    exact ⟨.ref s.heap.objs.size, _, I.laid (t' := s.toks) (fun b ob q => Heap.get?_push_of_some _ q) (Nat.le_refl _) ok, rfl, q2 hw _ _ (I.hok.fresh (Nat.le_refl _)) rfl⟩
end
/-! #### what stands as a list, as a list or tuple -/
def asL : W → Oh → Option (List W)
  | .d (.list ds), _ => some (ds.map W.d)
  | .c j, O => match O[j]? with
    | some (.lst ws) => some ws
    | _ => none
  | _, _ => none
def asS : W → Oh → Option (List W)
  | .d (.list ds), _ => some (ds.map W.d)
  | .d (.tuple ds), _ => some (ds.map W.d)
  | .d (.dict [(.none, .list ds)]), _ => some (ds.map W.d)
  | .p ds, _ => some (ds.map W.d)
  | .k ks, _ => some (ks.map fun x => W.d (keyD x))
  | .t xs, _ => some (xs.map tiW)
  | .c j, O => match O[j]? with
    | some (.lst ws) => some ws
    | _ => none
  | _, _ => none
section
variable {K : Fg} {mg : Str → Option Value} {G : Hp} {α : Al} {O : Oh} {H : Hp}
theorem asL_ok {v : V} {x : W} {ws : List W} (rel : Rel K mg G α O H) (r : Rv K G α v x) (h : asL x O = some ws) : ∃ a vs, v = .ref a ∧ H a = some (.lst vs) ∧ RvL K G α vs ws := by
  unfold asL at h
  split at h
  · cases h
    cases r with
    | lst hs ha => exact ⟨_, _, rfl, rel.ex _ _ hs, RvL.ofD ha⟩
  · next O' j =>
    split at h
    · next ws' e =>
      cases h
      obtain ⟨a, ha, rfl⟩ := r
      obtain ⟨_, vs, hH, rl⟩ := rel.at_ j a _ ha e
      exact ⟨a, vs, rfl, hH, rl⟩
    · cases h
  · cases h
theorem asS_ok {v : V} {x : W} {ws : List W} (rel : Rel K mg G α O H) (r : Rv K G α v x) (h : asS x O = some ws) : ∃ a vs, v = .ref a ∧ (SqL K H a vs ∨ SqT K H a vs) ∧ RvL K G α vs ws := by
  unfold asS at h
  split at h
  · cases h
    cases r with
    | lst hs ha => exact ⟨_, _, rfl, .inl (SqL.of (rel.ex _ _ hs)), RvL.ofD ha⟩
  · cases h
    cases r with
    | tup hs td ha => exact ⟨_, _, rfl, .inr (rel.ex.sqT hs), RvL.ofD ha⟩
  · cases h
    cases r with
    | scr ns hs => exact ⟨_, _, rfl, .inl (rel.ex.sqL hs), RvL.ofD (RpL.ints ns)⟩
    | dk hg hk =>
      cases hk with
      | @cons k _ _ _ _ _ e _ _ _ => cases k <;> cases e
  · cases h
    obtain ⟨a, vs, rfl, hs, ha⟩ := r
    exact ⟨_, _, rfl, .inr (rel.ex.sqT hs), RvL.ofD ha⟩
  · cases h
    obtain ⟨ok, a, rfl, hs⟩ := r
    refine ⟨a, _, rfl, .inr (SqT.of (rel.ex _ _ hs)), ?_⟩
    have z := RvL.ofD (α := α) (RpL.keys (K := K) (G := G) ok)
    rwa [List.map_map] at z
  · cases h
    obtain ⟨a, vs, rfl, hs, hr⟩ := r
    exact ⟨a, vs, rfl, .inr (SqT.of (rel.ex _ _ hs)), RiL.rv hr⟩
  · next O' j =>
    split at h
    · next ws' e =>
      cases h
      obtain ⟨a, ha, rfl⟩ := r
      obtain ⟨_, vs, hH, rl⟩ := rel.at_ j a _ ha e
      exact ⟨a, vs, rfl, .inl (SqL.of hH), rl⟩
    · cases h
  · cases h
end
/-- what may be laid as data: x or a cell's list -/
def asD : W → Oh → Option PyData
  | .d x, _ => some x
  | .c j, O => match O[j]? with
    | some (.lst ws) => match datas ws with
      | some ds => some (.list ds)
      | none => none
    | _ => none
  | .k ks, _ => some (.tuple (ks.map keyD))
  | .p ds, _ => some (.tuple ds)
  | _, _ => none
/-- data without dicts, not too deep -/
def shp : Nat → PyData → Bool
  | _, .none => true
  | _, .bool _ => true
  | _, .int _ => true
  | _, .str _ => true
  | n + 1, .list ds => ds.all (shp n)
  | n + 1, .tuple ds => ds.all (shp n)
  | _, _ => false
section
variable {K : Fg} {mg : Str → Option Value} {G : Hp} {α : Al} {O : Oh} {H : Hp}
mutual
theorem shp_depth : ∀ (n : Nat) (d : PyData), shp n d = true → d.depth ≤ n
  | n, .none, _ => by simp [PyData.depth]
  | n, .bool _, _ => by simp [PyData.depth]
  | n, .int _, _ => by simp [PyData.depth]
  | n, .str _, _ => by simp [PyData.depth]
  | 0, .list ds, h => by cases h
  | n + 1, .list ds, h => by
    have := shp_depths n ds h
    simp only [PyData.depth]
    omega
  | 0, .tuple ds, h => by cases h
  | n + 1, .tuple ds, h => by
    have := shp_depths n ds h
    simp only [PyData.depth]
    omega
  | 0, .dict _, h => by cases h
  | n + 1, .dict _, h => by cases h
theorem shp_depths : ∀ (n : Nat) (ds : List PyData), ds.all (shp n) = true → PyData.depthAll ds ≤ n
  | n, [], _ => by simp [PyData.depthAll]
  | n, d :: ds, h => by
    rw [List.all_cons, Bool.and_eq_true] at h
    have h1 := shp_depth n d h.1
    have h2 := shp_depths n ds h.2
    simp only [PyData.depthAll]
    omega
end
mutual
theorem rp_lay : ∀ (n : Nat) (d : PyData) {v : V}, Rp K G v d → shp n d = true → d.canLay0 = true
  | n, .none, _, _, _ => by simp [PyData.canLay0]
  | n, .bool _, _, _, _ => by simp [PyData.canLay0]
  | n, .int _, _, _, _ => by simp [PyData.canLay0]
  | n, .str _, _, r, _ => by cases r with | str _ h => simpa [PyData.canLay0] using h
  | 0, .list ds, _, _, h => by cases h
  | n + 1, .list ds, _, r, h => by
    cases r with | lst hs ha => simpa only [PyData.canLay0] using rp_lays n ds ha h
  | 0, .tuple ds, _, _, h => by cases h
  | n + 1, .tuple ds, _, r, h => by
    cases r with | tup hs td ha => simpa only [PyData.canLay0] using rp_lays n ds ha h
  | 0, .dict _, _, _, h => by cases h
  | n + 1, .dict _, _, _, h => by cases h
theorem rp_lays : ∀ (n : Nat) (ds : List PyData) {vs : List V}, RpL K G vs ds → ds.all (shp n) = true → PyData.canLayAll0 ds = true
  | n, [], _, _, _ => by simp [PyData.canLayAll0]
  | n, d :: ds, _, r, h => by
    rw [List.all_cons, Bool.and_eq_true] at h
    cases r with
    | cons r1 r2 =>
      simp only [PyData.canLayAll0, Bool.and_eq_true]
      exact ⟨rp_lay n d r1 h.1, rp_lays n ds r2 h.2⟩
end
mutual
theorem rp_dp : ∀ (n : Nat) (d : PyData) {v : V}, Ex G H → Rp K G v d → shp n d = true → Dp K H v d
  | n, .none, _, _, r, _ => by cases r; exact .non
  | n, .bool _, _, _, r, _ => by cases r; exact .bl _
  | n, .int _, _, _, r, _ => by cases r; exact .int _
  | n, .str _, _, _, r, _ => by cases r; exact .str _
  | 0, .list ds, _, _, _, h => by cases h
  | n + 1, .list ds, _, e, r, h => by
    cases r with | lst hs ha => exact .lst (SqL.of (e _ _ hs)) (rp_dps n ds e ha h)
  | 0, .tuple ds, _, _, _, h => by cases h
  | n + 1, .tuple ds, _, e, r, h => by
    cases r with | tup hs td ha => exact .tup (e.sqT hs) (rp_dps n ds e ha h)
  | 0, .dict _, _, _, _, h => by cases h
  | n + 1, .dict _, _, _, _, h => by cases h
theorem rp_dps : ∀ (n : Nat) (ds : List PyData) {vs : List V}, Ex G H → RpL K G vs ds → ds.all (shp n) = true → DpAll K H vs ds
  | n, [], _, _, r, _ => by cases r; exact .nil
  | n, d :: ds, _, e, r, h => by
    rw [List.all_cons, Bool.and_eq_true] at h
    cases r with
    | cons r1 r2 => exact .cons (rp_dp n d e r1 h.1) (rp_dps n ds e r2 h.2)
end
theorem shp_keys (n : Nat) : ∀ ks : List Key, (ks.map keyD).all (shp n) = true
  | [] => rfl
  | .inl i :: r => by rw [List.map_cons, List.all_cons, shp_keys n r]; cases n <;> rfl
  | .inr i :: r => by rw [List.map_cons, List.all_cons, shp_keys n r]; cases n <;> rfl
theorem shaped_of {n : Nat} {d : PyData} (hn : n ≤ 64) (h1 : d.canLay0 = true) (h2 : shp n d = true) : SeqAt.shaped d = true := by
  unfold SeqAt.shaped
  rw [h1, Bool.true_and]
  exact decide_eq_true (Nat.le_trans (shp_depth n d h2) hn)
theorem asD_ok {v : V} {x : W} {d : PyData} (rel : Rel K mg G α O H) (r : Rv K G α v x) (h : asD x O = some d) (hs : shp 40 d = true) : Dp K H v d ∧ SeqAt.shaped d = true := by
  unfold asD at h
  split at h
  · cases h
    exact ⟨rp_dp 40 _ rel.ex r hs, shaped_of (n := 40) (by decide) (rp_lay 40 _ r hs) hs⟩
  · next O' j =>
    split at h
    · next ws e =>
      split at h
      · next ds ed =>
        cases h
        obtain ⟨a, ha, rfl⟩ := r
        obtain ⟨_, vs, hH, rl⟩ := rel.at_ j a _ ha e
        rw [datas_eq ed] at rl
        have rd := rl.toD
        have hs' : ds.all (shp 39) = true := hs
        exact ⟨.lst (SqL.of hH) (rp_dps 39 _ rel.ex rd hs'), shaped_of (n := 40) (by decide) (by simpa only [PyData.canLay0] using rp_lays 39 ds rd hs') hs⟩
      · cases h
    · cases h
  · next O' ks =>
    cases h
    obtain ⟨ok, a, rfl, ht⟩ := r
    have rd := RpL.keys (K := K) (G := G) ok
    exact ⟨.tup (rel.ex.sqT (SqT.of ht)) (rp_dps 39 _ rel.ex rd (shp_keys 39 ks)), shaped_of (n := 40) (by decide) (by simpa only [PyData.canLay0] using rp_lays 39 _ rd (shp_keys 39 ks)) hs⟩
  · next O' ds =>
    cases h
    obtain ⟨a, vs, rfl, ht, rd⟩ := r
    have hs' : ds.all (shp 39) = true := hs
    exact ⟨.tup (rel.ex.sqT ht) (rp_dps 39 _ rel.ex rd hs'), shaped_of (n := 40) (by decide) (by simpa only [PyData.canLay0] using rp_lays 39 ds rd hs') hs⟩
  · cases h
end
/-! #### operators -/
theorem or_op {X : Cx} {f : Value → Value → Sem Value} {r r' : R2} (h : OpR X f r) (h' : OpR X f r') : OpR X f (fun x y H Q => r x y H Q ∨ r' x y H Q) := by
  intro pins s σ H x y v u Q I rx ry q
  rcases q with q | q
  · exact h pins s σ H x y v u Q I rx ry q
  · exact h' pins s σ H x y v u Q I rx ry q
def dAdd : D2 := fun x y O R => match x, y with
  | .d (.int i), .d (.int j) => R (.d (.int (i + j))) O
  | .d (.str i), .d (.str j) => i.length + j.length ≤ 1000000 ∧ R (.d (.str (i ++ j))) O
  | .d (.tuple xs), .d (.tuple ys) => xs.length + ys.length ≤ 1000000 ∧ R (.d (.tuple (xs ++ ys))) O
  | .d (.list xs), .d (.list ys) => xs.length + ys.length ≤ 1000000 ∧ R (.d (.list (xs ++ ys))) O
  | x, y => match asL x O, asL y O with
    | some xs, some ys => match datas xs, datas ys with
      | some ds, some es => ds.length + es.length ≤ 1000000 ∧ R (.d (.list (ds ++ es))) O
      | _, _ => False
    | _, _ => False
def rAdd4 (K : Fg) : R2 := fun x y H Q => (∃ i j, x = .int i ∧ y = .int j ∧ Q (.int (i + j)) H) ∨ (∃ i j, x = .str i ∧ y = .str j ∧ i.length + j.length ≤ sizeLine ∧ Q (.str (i ++ j)) H) ∨ rCatF K x y H Q ∨ rCat x y H Q
theorem op_add4 {X : Cx} : OpR X (binaryOp .Add) (rAdd4 X.K) := or_op op_add (or_op op_add_str (or_op op_catF op_cat))
theorem strOk_append {a b : Str} (ha : PyData.strOk a = true) (hb : PyData.strOk b = true) : PyData.strOk (a ++ b) = true := by
  unfold PyData.strOk at ha hb ⊢
  have e : (a ++ b).cps = a.cps ++ b.cps := rfl
  rw [e, Array.all_append, ha, hb]
  rfl
section
variable {K : Fg} {mg : Str → Option Value}
theorem cat_ok {G : Hp} {α : Al} {O : Oh} {H : Hp} {x y : W} {u v : V} {ds es : List PyData} {R : DK} {Q : VK} (rel : Rel K mg G α O H) {xs ys : List W} (r1 : Rv K G α u x) (r2 : Rv K G α v y) (h1 : asL x O = some xs) (h2 : asL y O = some ys)
    (e1 : datas xs = some ds) (e2 : datas ys = some es) (hz : ds.length + es.length ≤ 1000000) (q : R (.d (.list (ds ++ es))) O) (p : Post K mg G α R Q) : rCat u v H Q := by
  obtain ⟨a, vs, rfl, ha, ra⟩ := asL_ok rel r1 h1
  obtain ⟨b, us, rfl, hb, rb⟩ := asL_ok rel r2 h2
  rw [datas_eq e1] at ra
  rw [datas_eq e2] at rb
  have la := ra.toD.length
  have lb := rb.toD.length
  refine ⟨a, b, vs, us, rfl, rfl, ha, hb, by rw [la, lb]; exact szl hz, fun l hl => ?_⟩
  have ge := rel.ex.free hl
  exact p.lay q rel hl (.lst upd_same ((ra.toD.append rb.toD).mono (Ex.new ge)))
theorem s_add : OpS K mg dAdd (rAdd4 K) := by
  intro G α O H x y u v R Q rel r1 r2 h p
  unfold dAdd at h
  split at h
  · cases r1
    cases r2
    exact .inl ⟨_, _, rfl, rfl, p.here h rel (.int _)⟩
  · cases r1 with
    | str _ o1 =>
      cases r2 with
      | str _ o2 => exact .inr (.inl ⟨_, _, rfl, rfl, szl h.1, p.here h.2 rel (.str _ (strOk_append o1 o2))⟩)
  · cases r1 with
    | tup h1 t1 a1 =>
      cases r2 with
      | tup h2 t2 a2 =>
        have l1 := a1.length
        have l2 := a2.length
        refine .inr (.inr (.inl ⟨_, _, _, _, rfl, rfl, rel.ex.sqT h1, rel.ex.sqT h2, by rw [l1, l2]; exact szl h.1, fun z => ?_, fun _ z => ?_, fun _ _ l ob hl hd => p.layF h.2 rel hl hd (a1.append a2)⟩))
        · subst z
          cases a1
          exact p.here h.2 rel (.tup h2 t2 a2)
        · subst z
          cases a2
          have h3 := h.2
          rw [List.append_nil] at h3
          exact p.here h3 rel (.tup h1 t1 a1)
  · next xs ys => exact .inr (.inr (.inr (cat_ok rel r1 r2 (xs := xs.map W.d) (ys := ys.map W.d) rfl rfl (datas_map _) (datas_map _) h.1 h.2 p)))
  · split at h
    · next xs ys e1 e2 =>
      split at h
      · next ds es d1 d2 => exact .inr (.inr (.inr (cat_ok rel r1 r2 e1 e2 d1 d2 h.1 h.2 p)))
      · exact h.elim
    · exact h.elim
/-! ints -/
def dI2 (C : Int → Int → Prop) (g : Int → Int → PyData) : D2 := fun x y O R => match x, y with
  | .d (.int i), .d (.int j) => C i j ∧ R (.d (g i j)) O
  | _, _ => False
def dI20 (g : Int → Int → PyData) : D2 := fun x y O R => match x, y with
  | .d (.int i), .d (.int j) => R (.d (g i j)) O
  | _, _ => False
theorem s_I2 {C : Int → Int → Prop} {g : Int → Int → PyData} {gv : Int → Int → V} (hg : ∀ i j G, Rp K G (gv i j) (g i j)) : OpS K mg (dI2 C g) (rI C gv) := by
  intro G α O H x y u v R Q rel r1 r2 h p
  unfold dI2 at h
  split at h
  · cases r1
    cases r2
    exact ⟨_, _, rfl, rfl, h.1, p.here h.2 rel (hg _ _ _)⟩
  · exact h.elim
theorem s_I20 {g : Int → Int → PyData} {gv : Int → Int → V} (hg : ∀ i j G, Rp K G (gv i j) (g i j)) : OpS K mg (dI20 g) (rI0 gv) := by
  intro G α O H x y u v R Q rel r1 r2 h p
  unfold dI20 at h
  split at h
  · cases r1
    cases r2
    exact ⟨_, _, rfl, rfl, p.here h rel (hg _ _ _)⟩
  · exact h.elim
abbrev dSub : D2 := dI20 fun i j => .int (i - j)
theorem s_sub : OpS K mg dSub (rI0 fun i j => .int (i - j)) := s_I20 fun _ _ _ => .int _
abbrev dMul : D2 := dI2 CMul fun i j => .int (i * j)
theorem s_mul : OpS K mg dMul (rI CMul fun i j => .int (i * j)) := s_I2 fun _ _ _ => .int _
abbrev dMod : D2 := dI2 (fun _ j => 0 < j) fun i j => .int (i % j)
theorem s_mod : OpS K mg dMod (rI (fun _ j => 0 < j) fun i j => .int (i % j)) := s_I2 fun _ _ _ => .int _
abbrev dDiv : D2 := dI2 CDivW fun i j => .int (i / j)
theorem s_div : OpS K mg dDiv (rI CDivW fun i j => .int (i / j)) := s_I2 fun _ _ _ => .int _
abbrev dPow : D2 := dI2 CPow fun i j => .int (i ^ j.toNat)
theorem s_pow : OpS K mg dPow (rI CPow fun i j => .int (i ^ j.toNat)) := s_I2 fun _ _ _ => .int _
abbrev dLe : D2 := dI20 fun i j => .bool (decide (i ≤ j))
theorem s_le : OpS K mg dLe (rI0 fun i j => .bl (decide (i ≤ j))) := s_I20 fun _ _ _ => .bl _
/-! == and != -/
def dEq : D2 := fun x y O R => match asD x O, asD y O with
  | some d, some e => shp 40 d = true ∧ shp 40 e = true ∧ R (.d (.bool (PyData.eqv d e))) O
  | _, _ => False
def dNe : D2 := fun x y O R => match asD x O, asD y O with
  | some d, some e => shp 40 d = true ∧ shp 40 e = true ∧ R (.d (.bool (!PyData.eqv d e))) O
  | _, _ => False
theorem s_eq : OpS K mg dEq (rEqD K) := by
  intro G α O H x y u v R Q rel r1 r2 h p
  unfold dEq at h
  split at h
  · next d e e1 e2 =>
    obtain ⟨d1, s1⟩ := asD_ok rel r1 e1 h.1
    obtain ⟨d2, s2⟩ := asD_ok rel r2 e2 h.2.1
    exact ⟨d, e, d1, d2, s1, s2, p.here h.2.2 rel (.bl _)⟩
  · exact h.elim
theorem s_ne : OpS K mg dNe (rNeD K) := by
  intro G α O H x y u v R Q rel r1 r2 h p
  unfold dNe at h
  split at h
  · next d e e1 e2 =>
    obtain ⟨d1, s1⟩ := asD_ok rel r1 e1 h.1
    obtain ⟨d2, s2⟩ := asD_ok rel r2 e2 h.2.1
    exact ⟨d, e, d1, d2, s1, s2, p.here h.2.2 rel (.bl _)⟩
  · exact h.elim
/-! is None -/
def isNone : W → Bool
  | .d .none => true
  | _ => false
theorem isNone_ok {G : Hp} {α : Al} {x : W} {v : V} (r : Rv K G α v x) : decide (v = .non) = isNone x := by
  cases x with
  | d x => cases r <;> rfl
  | c j => obtain ⟨a, _, rfl⟩ := r; rfl
  | k ks => obtain ⟨_, a, rfl, _⟩ := r; rfl
  | p ds => obtain ⟨a, _, rfl, _⟩ := r; rfl
  | q ks x => obtain ⟨_, a, _, _, rfl, _⟩ := r; rfl
  | o a d fs => cases r.1; rfl
  | t xs => obtain ⟨a, _, rfl, _⟩ := r; rfl
end
end Dl
namespace Dl
open PySem PySem.Spec PyProof.Rows L2
variable [TabsC]
/-! #### subscripts -/
def dIx : D2 := fun x y O R => match x, y with
  | .d (.str s), .d (.int i) => s.length ≤ 1000000 ∧ (match atI s.cps.toList i with
    | some c => R (.d (.str ⟨#[c]⟩)) O
    | none => False)
  | x, .d (.int i) => (match asS x O with
    | some ws => (match atI ws i with
      | some w => R w O
      | none => False)
    | none => False)
  | _, _ => False
theorem strOk_one {s : Str} {i : Int} {c : Nat} (h : PyData.strOk s = true) (e : atI s.cps.toList i = some c) : PyData.strOk ⟨#[c]⟩ = true := by
  obtain ⟨j, _, hj, _⟩ := atI_get e
  have hm : c ∈ s.cps.toList := List.mem_of_getElem? hj
  unfold PyData.strOk at h ⊢
  rw [Array.all_eq_true] at h
  have hc : c < 0x110000 := by
    obtain ⟨n, hn, e⟩ := List.getElem_of_mem hm
    have := h n (by simpa using hn)
    rw [← e]
    simpa using this
  simp [hc]
theorem paired_atI {α β : Type} {F : α → β → Prop} {xs : List α} {ys : List β} {i : Int} {y : β} (r : Paired F xs ys) (h : atI ys i = some y) (get : ∀ j : Nat, ys[j]? = some y → ∃ x, xs[j]? = some x ∧ F x y) : ∃ x, atI xs i = some x ∧ F x y := by
  have hl := Paired.length r
  unfold atI at h ⊢
  rw [hl]
  cases e : ixN ys.length i with
  | none => rw [e] at h; cases h
  | some j =>
    rw [e] at h
    exact get j h
section
variable {K : Fg} {mg : Str → Option Value}
theorem s_ix : OpS K mg dIx (rIx K) := by
  intro G α O H x y u v R Q rel r1 r2 h p
  unfold dIx at h
  split at h
  · cases r2
    cases r1 with
    | str s ok =>
      obtain ⟨hz, h⟩ := h
      split at h
      · next c e => exact .inr (.inr ⟨_, _, _, rfl, rfl, szl hz, e, p.here h rel (.str _ (strOk_one ok e))⟩)
      · exact h.elim
  · cases r2
    split at h
    · next ws e =>
      split at h
      · next w ew =>
        obtain ⟨a, vs, rfl, hs, rl⟩ := asS_ok rel r1 e
        obtain ⟨z, hz, rz⟩ := paired_atI rl ew fun j q => rl.get q
        rcases hs with hs | hs
        · exact .inl ⟨a, vs, _, z, rfl, rfl, hs, hz, p.here h rel rz⟩
        · exact .inr (.inl ⟨a, vs, _, z, rfl, rfl, hs, hz, p.here h rel rz⟩)
      · exact h.elim
    · exact h.elim
  · exact h.elim
variable {X : Cx} {Wx : WX} {k : Nat} {a b c e : Expr} {wa wb wc we : DEx} {pos p2 : Pos} {es : List Expr} {ws : DA}
/-! #### slices -/
abbrev DO := Gm → Oh → (Option Int → Oh → Prop) → DX → Prop
def PostO (K : Fg) (mg : Str → Option Value) (G : Hp) (α : Al) (R : Option Int → Oh → Prop) (Q : Option Int → Hp → Prop) : Prop := ∀ r O', R r O' → ∀ G' α' H', Ex G G' → Pre α α' → Rel K mg G' α' O' H' → Q r H'
def liftO (K : Fg) (mg : Str → Option Value) (Wx : WX) (w : DO) : TO := fun σ H Q => ∃ G α Γ O R xe, Sl K G α Γ σ ∧ Rel K mg G α O H ∧ w Γ O R xe ∧ PostO K mg G α R Q ∧ XPost K mg G α xe Wx
def DOp (X : Cx) (Wx : WX) (e : Option Expr) (w : DO) : Prop := PO X e (liftO X.K X.mg Wx w)
def dO0 : DO := fun _ O R _ => R none O
def dO1 (w : DEx) : DO := fun Γ O R xe => w Γ O (fun x O1 => match x with
  | .d (.int i) => R (some i) O1
  | _ => False) xe
theorem do_none : DOp X Wx none dO0 := ⟨fun pins s σ H Q I h => by
  obtain ⟨G, α, Γ, O, R, xe, sl, rel, h, p, xp⟩ := h
  exact (po_none (X := X)).run pins s σ H Q I (p _ _ h _ _ _ (Ex.refl _) (Pre.refl _) rel)⟩
theorem do_some (he : DE X Wx e we) : DOp X Wx (some e) (dO1 we) := ⟨fun pins s σ H Q I h => by
  obtain ⟨G, α, Γ, O, R, xe, sl, rel, h, p, xp⟩ := h
  refine (po_some he).run pins s σ H Q I ⟨G, α, Γ, O, _, xe, sl, rel, h, fun x O1 h1 v G1 α1 H1 e1 p1 rel1 r1 => ?_, xp⟩
  dsimp only at h1
  split at h1
  · cases r1
    exact ⟨_, rfl, p _ _ h1 _ _ _ e1 p1 rel1⟩
  · exact h1.elim⟩
/-- the part of a list -/
def cutL {α : Type} (xs : List α) (lo hi : Option Int) : List α := (xs.drop (HT.sIx xs.length 0 lo)).take (HT.sIx xs.length xs.length hi - HT.sIx xs.length 0 lo)
theorem cutL_all {α : Type} {xs : List α} {lo hi : Option Int} (h0 : HT.sIx xs.length 0 lo = 0) (h1 : HT.sIx xs.length xs.length hi = xs.length) : cutL xs lo hi = xs := by
  unfold cutL
  rw [h0, h1, List.drop_zero, Nat.sub_zero, List.take_length]
def dSl (x : W) (lo hi : Option Int) (O : Oh) (R : DK) : Prop := match x with
  | .d (.str s) => s.length ≤ 1000000 ∧ R (.d (.str (cutS s lo hi))) O
  | .d (.tuple ds) => R (.d (.tuple (cutL ds lo hi))) O
  | .d (.list ds) => R (.d (.list (cutL ds lo hi))) O
  | x => match asL x O with
    | some ws => match datas ws with
      | some ds => R (.d (.list (cutL ds lo hi))) O
      | none => False
    | none => False
def dSlice (wo : DEx) (wl wh : DO) : DEx := fun Γ O R xe => wo Γ O (fun x O1 => wl Γ O1 (fun lo O2 => wh Γ O2 (fun hi O3 => dSl x lo hi O3 R) xe) xe) xe
theorem strOk_cut {s : Str} {lo hi : Option Int} (h : PyData.strOk s = true) : PyData.strOk (cutS s lo hi) = true := by
  unfold PyData.strOk at h ⊢
  rw [Array.all_eq_true] at h
  have hall : ∀ c ∈ s.cps.toList, c < 0x110000 := fun c hm => by
    obtain ⟨n, hn, e⟩ := List.getElem_of_mem hm
    have := h n (by simpa using hn)
    rw [← e]
    simpa using this
  unfold cutS
  rw [← Array.all_toList]
  rw [List.all_eq_true]
  intro c hc
  have hc' : c ∈ s.cps.toList := by
    exact List.mem_of_mem_drop (List.mem_of_mem_take hc)
  exact decide_eq_true (hall c hc')
theorem de_slice {lo hi : Option Expr} {wl wh : DO} (he : DE X Wx e we) (hl : DOp X Wx lo wl) (hh : DOp X Wx hi wh) : DE X Wx (.Subscript e (.Slice lo hi none p2) pos) (dSlice we wl wh) := by
  refine pe_imp (fun σ H Q ⟨G, α, Γ, O, R, xe, sl, rel, h, p, xp⟩ => ?_) (pe_slice (SlR.or sl_str (SlR.or sl_tupF sl_list)) he hl hh)
  refine ⟨G, α, Γ, O, _, xe, sl, rel, h, fun x O1 h1 v G1 α1 H1 e1 p1 rel1 r1 => ?_, xp⟩
  refine ⟨G1, α1, Γ, O1, _, xe, sl.mono e1 p1, rel1, h1, fun lo O2 h2 G2 α2 H2 e2 p2 rel2 => ?_, xp.mono e1 p1⟩
  refine ⟨G2, α2, Γ, O2, _, xe, sl.mono (e1.trans e2) (p1.trans p2), rel2, h2, fun hi O3 h3 G3 α3 H3 e3 p3 rel3 => ?_, xp.mono (e1.trans e2) (p1.trans p2)⟩
  have r3 := r1.mono (e2.trans e3) (p2.trans p3)
  have pp := p.mono (e1.trans (e2.trans e3)) (p1.trans (p2.trans p3))
  unfold dSl at h3
  split at h3
  · cases r3 with
    | str s ok => exact .inl ⟨_, rfl, szl h3.1, pp.here h3.2 rel3 (.str _ (strOk_cut ok))⟩
  · cases r3 with
    | tup hs td ha =>
      have hl := ha.length
      refine .inr (.inl ⟨_, _, rfl, rel3.ex.sqT hs, fun ⟨z1, z2⟩ => ?_, fun _ q ob hq hd => pp.layF h3 rel3 hq hd ?_⟩)
      · rw [hl] at z1 z2
        rw [cutL_all z1 z2] at h3
        exact pp.here h3 rel3 (.tup hs td ha)
      · unfold cutL
        rw [← hl]
        exact (ha.drop _).take _
  · cases r3 with
    | lst hs ha =>
      have hl := ha.length
      refine .inr (.inr ⟨_, _, rfl, SqL.of (rel3.ex _ _ hs), fun q hq => pp.lay h3 rel3 hq (.lst upd_same ?_)⟩)
      unfold cutL
      rw [← hl]
      exact ((ha.drop _).take _).mono (Ex.new (rel3.ex.free hq))
  · split at h3
    · next ws ew =>
      split at h3
      · next ds ed =>
        obtain ⟨a, vs, rfl, hs, rl⟩ := asL_ok rel3 r3 ew
        rw [datas_eq ed] at rl
        have ha := rl.toD
        have hl := ha.length
        refine .inr (.inr ⟨_, _, rfl, SqL.of hs, fun q hq => pp.lay h3 rel3 hq (.lst upd_same ?_)⟩)
        unfold cutL
        rw [← hl]
        exact ((ha.drop _).take _).mono (Ex.new (rel3.ex.free hq))
      · exact h3.elim
    · exact h3.elim
/-- xs[::-1] -/
def dRevL (we : DEx) : DEx := fun Γ O R xe => we Γ O (fun x O1 => match asL x O1 with
  | some ws => (match datas ws with
    | some ds => R (.d (.list ds.reverse)) O1
    | none => False)
  | none => False) xe
/-! #### in -/
def strIn (a b : Str) : Bool := !(Builtin.Str.occurrences b a 0 b.length 1).isEmpty
theorem strIn_sign (c : Nat) (z : Str) : strIn ⟨#[c]⟩ z = decide (c ∈ z.cps.toList) := PySem.StrLaws.found_one z c
def rInS2 (neg : Bool) : R2 := fun x y H Q => ∃ i j, x = .str i ∧ y = .str j ∧ Q (.bl (if neg then !strIn i j else strIn i j)) H
/-! #### calls of built-ins by value -/
abbrev DC := List W → Oh → DK → Prop
def CallS (K : Fg) (mg : Str → Option Value) (f : DC) (r : List V → Hp → VK → Prop) : Prop := ∀ G α O H xs vs R Q, Rel K mg G α O H → RvL K G α vs xs → f xs O R → Post K mg G α R Q → r vs H Q
def dCB (f : DC) (ws : DA) : DEx := fun Γ O R xe => ws Γ O (fun xs O1 => f xs O1 R) xe
theorem lift_cb {f : DC} {r : List V → Hp → VK → Prop} (hs : CallS K mg f r) {σ : L2.St} {H : Hp} {Q : VK} (h : liftE K mg Wx (dCB f ws) σ H Q) : tCB r (liftA K mg Wx ws) σ H Q := by
  obtain ⟨G, α, Γ, O, R, xe, sl, rel, h, p, xp⟩ := h
  exact ⟨G, α, Γ, O, _, xe, sl, rel, h, fun x O1 h1 v G1 α1 H1 e1 p1 rel1 r1 => hs _ _ _ _ _ _ _ _ rel1 r1 h1 (p.mono e1 p1), xp⟩
variable {x : Str} {p : Pos}
theorem de_callB {id : String} {f : DC} {r : List V → Hp → VK → Prop} (hc : CallR X (.builtin id) r) (hs : CallS X.K X.mg f r) (hm : X.mg x = none) (hv : bootBuiltins x = some (.builtin id)) (ha : DAs X Wx (e :: es) ws) (hg : Gl X x := by rfl) (hn : x ≠ "__name__" := by decide) (hdb : (x == ("__debug__" : Str)) = false := by decide)
    (he : starEach (e :: es) X.env = (false, eval e X.env) :: starEach es X.env := by rfl) (hpl : (backTo pos (starEach es X.env)).any (·.1) = false := by rfl) : DE X Wx (.Call (.Name x p) (e :: es) [] pos) (dCB f ws) :=
  pe_imp (fun _ _ _ h => lift_cb hs h) (pe_callB hc hg hm hv ha hn hdb he hpl)
theorem de_callTy {T : String} {f : DC} {r : List V → Hp → VK → Prop} (hc : CallR X (.type T) r) (hs : CallS X.K X.mg f r) (hm : X.mg x = none) (hv : bootBuiltins x = some (.type T)) (ha : DAs X Wx (e :: es) ws) (hg : Gl X x := by rfl) (hn : x ≠ "__name__" := by decide) (hdb : (x == ("__debug__" : Str)) = false := by decide)
    (he : starEach (e :: es) X.env = (false, eval e X.env) :: starEach es X.env := by rfl) (hpl : (backTo pos (starEach es X.env)).any (·.1) = false := by rfl) : DE X Wx (.Call (.Name x p) (e :: es) [] pos) (dCB f ws) :=
  pe_imp (fun _ _ _ h => lift_cb hs h) (pe_callTy hc hg hm hv ha hn hdb he hpl)
theorem or_call {f : Value} {r r' : List V → Hp → VK → Prop} (h : CallR X f r) (h' : CallR X f r') : CallR X f (fun xs H Q => r xs H Q ∨ r' xs H Q) := by
  intro pins s σ H xs us Q I rs q
  rcases q with q | q
  · exact h pins s σ H xs us Q I rs q
  · exact h' pins s σ H xs us Q I rs q
theorem rv1 {G : Hp} {α : Al} {vs : List V} {w : W} (h : RvL K G α vs [w]) : ∃ v, vs = [v] ∧ Rv K G α v w := by
  cases h with
  | cons r t => cases t; exact ⟨_, rfl, r⟩
theorem rv2 {G : Hp} {α : Al} {vs : List V} {w z : W} (h : RvL K G α vs [w, z]) : ∃ v u, vs = [v, u] ∧ Rv K G α v w ∧ Rv K G α u z := by
  cases h with
  | cons r t => cases t with | cons r' t => cases t; exact ⟨_, _, rfl, r, r'⟩
def rLen3 (K : Fg) : List V → Hp → VK → Prop := fun xs H Q => (∃ p ys, xs = [.ref p] ∧ (SqL K H p ys ∨ SqT K H p ys) ∧ Q (.int ys.length) H) ∨ (∃ z, xs = [.str z] ∧ z.length ≤ sizeLine ∧ Q (.int z.length) H)
theorem call_len3 : CallR X (.builtin "len") (rLen3 X.K) := or_call call_len_seq call_len_str
def dLen : DC := fun xs O R => match xs with
  | [.d (.str s)] => s.length ≤ 1000000 ∧ R (.d (.int (s.length : Nat))) O
  | [x] => (match asS x O with
    | some ws => R (.d (.int (ws.length : Nat))) O
    | none => False)
  | _ => False
theorem s_len : CallS K mg dLen (rLen3 K) := by
  intro G α O H xs vs R Q rel r h p
  unfold dLen at h
  split at h
  · obtain ⟨v, rfl, rv⟩ := rv1 r
    cases rv
    exact .inr ⟨_, rfl, szl h.1, p.here h.2 rel (.int _)⟩
  · obtain ⟨v, rfl, rv⟩ := rv1 r
    split at h
    · next ws ew =>
      obtain ⟨a, vs, rfl, hs, rl⟩ := asS_ok rel rv ew
      refine .inl ⟨a, vs, rfl, hs, ?_⟩
      rw [rl.len]
      exact p.here h rel (.int _)
    · exact h.elim
  · exact h.elim
def dAbs : DC := fun xs O R => match xs with
  | [.d (.int i)] => R (.d (.int (if i < 0 then -i else i))) O
  | _ => False
theorem s_abs : CallS K mg dAbs (fun xs H Q => ∃ i, xs = [.int i] ∧ Q (.int (if i < 0 then -i else i)) H) := by
  intro G α O H xs vs R Q rel r h p
  unfold dAbs at h
  split at h
  · obtain ⟨v, rfl, rv⟩ := rv1 r
    cases rv
    exact ⟨_, rfl, p.here h rel (.int _)⟩
  · exact h.elim
def dMax : DC := fun xs O R => match xs with
  | [.d (.int i), .d (.int j)] => R (.d (.int (if j > i then j else i))) O
  | _ => False
theorem s_max : CallS K mg dMax (fun xs H Q => ∃ i j, xs = [.int i, .int j] ∧ Q (.int (if j > i then j else i)) H) := by
  intro G α O H xs vs R Q rel r h p
  unfold dMax at h
  split at h
  · obtain ⟨v, u, rfl, rv, ru⟩ := rv2 r
    cases rv; cases ru
    exact ⟨_, _, rfl, p.here h rel (.int _)⟩
  · exact h.elim
def dMin : DC := fun xs O R => match xs with
  | [.d (.int i), .d (.int j)] => R (.d (.int (if j < i then j else i))) O
  | _ => False
theorem s_min : CallS K mg dMin (fun xs H Q => ∃ i j, xs = [.int i, .int j] ∧ Q (.int (if j < i then j else i)) H) := by
  intro G α O H xs vs R Q rel r h p
  unfold dMin at h
  split at h
  · obtain ⟨v, u, rfl, rv, ru⟩ := rv2 r
    cases rv; cases ru
    exact ⟨_, _, rfl, p.here h rel (.int _)⟩
  · exact h.elim
/-- tuple(x) -/
def dTupOf : DC := fun xs O R => match xs with
  | [.d (.tuple ds)] => R (.d (.tuple ds)) O
  | [x] => (match asL x O with
    | some ws => (match datas ws with
      | some ds => R (.d (.tuple ds)) O
      | none => False)
    | none => False)
  | _ => False
theorem s_tupOf : CallS K mg dTupOf (rTupOf K) := by
  intro G α O H xs vs R Q rel r h p
  unfold dTupOf at h
  split at h
  · obtain ⟨v, rfl, rv⟩ := rv1 r
    cases rv with
    | tup hs td ha => exact ⟨_, _, rfl, .inr ⟨rel.ex.sqT hs, p.here h rel (.tup hs td ha)⟩⟩
  · obtain ⟨v, rfl, rv⟩ := rv1 r
    split at h
    · next ws ew =>
      split at h
      · next ds ed =>
        obtain ⟨a, vs, rfl, hs, rl⟩ := asL_ok rel rv ew
        rw [datas_eq ed] at rl
        exact ⟨a, vs, rfl, .inl ⟨SqL.of hs, fun l ob hl hd => p.layF h rel hl hd rl.toD⟩⟩
      · exact h.elim
    · exact h.elim
  · exact h.elim
/-- list(x): one that never changes; one that will -/
def dListOf : DC := fun xs O R => match xs with
  | [x] => (match asS x O with
    | some ws => (match datas ws with
      | some ds => R (.d (.list ds)) O
      | none => False)
    | none => False)
  | _ => False
def dListC : DC := fun xs O R => match xs with
  | [x] => (match asS x O with
    | some ws => R (.c O.length) (O ++ [.lst ws])
    | none => False)
  | _ => False
def rListOf (K : Fg) : List V → Hp → VK → Prop := fun xs H Q => ∃ p ys, xs = [.ref p] ∧ (SqL K H p ys ∨ SqT K H p ys) ∧ ∀ l, H l = none → Q (.ref l) (upd H l (.lst ys))
theorem s_listOf : CallS K mg dListOf (rListOf K) := by
  intro G α O H xs vs R Q rel r h p
  unfold dListOf at h
  split at h
  · obtain ⟨v, rfl, rv⟩ := rv1 r
    split at h
    · next ws ew =>
      split at h
      · next ds ed =>
        obtain ⟨a, vs, rfl, hs, rl⟩ := asS_ok rel rv ew
        rw [datas_eq ed] at rl
        exact ⟨a, vs, rfl, hs, fun l hl => p.lay h rel hl (.lst upd_same (rl.toD.mono (Ex.new (rel.ex.free hl))))⟩
      · exact h.elim
    · exact h.elim
  · exact h.elim
theorem s_listC : CallS K mg dListC (rListOf K) := by
  intro G α O H xs vs R Q rel r h p
  unfold dListC at h
  split at h
  · obtain ⟨v, rfl, rv⟩ := rv1 r
    split at h
    · next ws ew =>
      obtain ⟨a, vs, rfl, hs, rl⟩ := asS_ok rel rv ew
      refine ⟨a, vs, rfl, hs, fun l hl => ?_⟩
      have rel2 := rel.cell (o := .lst vs) (c := .lst ws) hl (fun b z => by cases z) ⟨rel.ex.free hl, vs, upd_same, rl.mono (Ex.refl _) Pre.push⟩
      exact p _ _ h _ _ _ _ (Ex.refl _) Pre.push rel2 ⟨l, pre_len rel.len, rfl⟩
    · exact h.elim
  · exact h.elim
/-! all, any of truth values -/
def boolsD : List PyData → Option (List Bool)
  | [] => some []
  | .bool b :: r => match boolsD r with
    | some bs => some (b :: bs)
    | none => none
  | _ :: _ => none
theorem boolsD_eq : ∀ {ds : List PyData} {bs : List Bool}, boolsD ds = some bs → ds = bs.map PyData.bool
  | [], _, h => by cases h; rfl
  | .bool b :: r, bs, h => by
    unfold boolsD at h
    split at h
    · next q e => cases h; rw [boolsD_eq e]; rfl
    · cases h
  | .none :: _, _, h => by cases h
  | .int _ :: _, _, h => by cases h
  | .str _ :: _, _, h => by cases h
  | .list _ :: _, _, h => by cases h
  | .tuple _ :: _, _, h => by cases h
  | .dict _ :: _, _, h => by cases h
theorem rp_bools {G : Hp} : ∀ {bs : List Bool} {vs : List V}, RpL K G vs (bs.map PyData.bool) → vs = bs.map V.bl
  | [], _, r => by cases r; rfl
  | b :: bs, _, r => by
    cases r with
    | cons r1 r2 => cases r1; rw [rp_bools r2]; rfl
def dAll : DC := fun xs O R => match xs with
  | [.d (.list ds)] => (match boolsD ds with
    | some bs => R (.d (.bool (bs.all id))) O
    | none => False)
  | _ => False
def dAny : DC := fun xs O R => match xs with
  | [.d (.list ds)] => (match boolsD ds with
    | some bs => R (.d (.bool (bs.any id))) O
    | none => False)
  | _ => False
theorem s_all : CallS K mg dAll (rAll K) := by
  intro G α O H xs vs R Q rel r h p
  unfold dAll at h
  split at h
  · obtain ⟨v, rfl, rv⟩ := rv1 r
    split at h
    · next bs eb =>
      cases rv with
      | lst hs ha =>
        rw [boolsD_eq eb] at ha
        exact ⟨_, bs, rfl, by rw [← rp_bools ha]; exact SqL.of (rel.ex _ _ hs), p.here h rel (.bl _)⟩
    · exact h.elim
  · exact h.elim
theorem s_any : CallS K mg dAny (rAny K) := by
  intro G α O H xs vs R Q rel r h p
  unfold dAny at h
  split at h
  · obtain ⟨v, rfl, rv⟩ := rv1 r
    split at h
    · next bs eb =>
      cases rv with
      | lst hs ha =>
        rw [boolsD_eq eb] at ha
        exact ⟨_, bs, rfl, by rw [← rp_bools ha]; exact SqL.of (rel.ex _ _ hs), p.here h rel (.bl _)⟩
    · exact h.elim
  · exact h.elim
end
end Dl
/-! ### set(xs) of a list of texts, any number of them, some alike -/
namespace Dl
open PySem PySem.Spec PyProof.Rows
variable [TabsC]
/-- each once, by the first time -/
def addMet (σ : List Str) (v : Str) : List Str := if σ.any (· == v) then σ else σ ++ [v]
def met (xs : List Str) : List Str := xs.foldl addMet []
theorem met_snoc (xs : List Str) (v : Str) : met (xs ++ [v]) = addMet (met xs) v := by unfold met; rw [List.foldl_append]; rfl
theorem addMet_le (σ : List Str) (v : Str) : (addMet σ v).length ≤ σ.length + 1 := by
  unfold addMet
  split
  · omega
  · rw [List.length_append]; exact Nat.le_refl _
theorem met_le_aux (xs : List Str) : ∀ σ : List Str, (xs.foldl addMet σ).length ≤ σ.length + xs.length := by
  induction xs with
  | nil => intro σ; exact Nat.le_refl _
  | cons x r ih =>
    intro σ
    have h1 := ih (addMet σ x)
    have h2 := addMet_le σ x
    show (r.foldl addMet (addMet σ x)).length ≤ σ.length + (r.length + 1)
    omega
end Dl
namespace Dl
open PySem PySem.Spec PyProof.Rows L2
variable [TabsC]
/-! #### methods of built-ins -/
abbrev DM := W → List W → Oh → DK → Prop
def MtS (K : Fg) (mg : Str → Option Value) (f : DM) (r : V → List V → Hp → VK → Prop) : Prop := ∀ G α O H x xs v vs R Q, Rel K mg G α O H → Rv K G α v x → RvL K G α vs xs → f x xs O R → Post K mg G α R Q → r v vs H Q
def isLstW : W → Oh → Bool
  | .d (.list _), _ => true
  | .c j, O => match O[j]? with
    | some (.lst _) => true
    | _ => false
  | _, _ => false
def isStrW : W → Oh → Bool
  | .d (.str _), _ => true
  | _, _ => false
def isDicW : W → Oh → Bool
  | .c j, O => match O[j]? with
    | some (.dic _) => true
    | some (.dct _) => true
    | _ => false
  | _, _ => false
def TwS (K : Fg) (mg : Str → Option Value) (tw : W → Oh → Bool) (T : String) : Prop := ∀ G α O H x v, Rel K mg G α O H → Rv K G α v x → tw x O = true → tyV K T v H
theorem tw_list {K : Fg} {mg : Str → Option Value} : TwS K mg isLstW "list" := by
  intro G α O H x v rel r h
  cases x with
  | d x =>
    cases x <;> first | (cases h; done) | skip
    cases r with | lst hs ha => exact .inl ⟨rfl, _, SqL.of (rel.ex _ _ hs)⟩
  | c j =>
    obtain ⟨a, ha, rfl⟩ := r
    unfold isLstW at h
    dsimp only at h
    split at h
    · next ws e =>
      obtain ⟨_, vs, hH, _⟩ := rel.at_ j a _ ha e
      exact .inl ⟨rfl, _, SqL.of hH⟩
    · cases h
  | _ => cases h
theorem tw_dict {K : Fg} {mg : Str → Option Value} : TwS K mg isDicW "dict" := by
  intro G α O H x v rel r h
  cases x with
  | c j =>
    obtain ⟨a, ha, rfl⟩ := r
    unfold isDicW at h
    dsimp only at h
    split at h
    · next ws e =>
      obtain ⟨_, vs, hH, _⟩ := rel.at_ j a _ ha e
      exact .inr (.inr (.inl ⟨rfl, .inl ⟨_, hH⟩⟩))
    · next ws e =>
      obtain ⟨_, vs, hH, _⟩ := rel.at_ j a _ ha e
      exact .inr (.inr (.inl ⟨rfl, .inr ⟨_, hH⟩⟩))
    · cases h
  | _ => cases h
def dBM (tw : W → Oh → Bool) (f : DM) (wo : DEx) (ws : DA) : DEx := fun Γ O R xe => wo Γ O (fun o O1 => tw o O1 = true ∧ ws Γ O1 (fun xs O2 => f o xs O2 R) xe) xe
section
variable {X : Cx} {Wx : WX} {k : Nat} {a b c e o : Expr} {wa wb wc we wo : DEx} {pos p2 apos cpos : Pos} {es : List Expr} {ws : DA} {T id : String} {name : Str} {f : DM} {r : V → List V → Hp → VK → Prop} {tw : W → Oh → Bool}
theorem lift_bm {K : Fg} {mg : Str → Option Value} (hs : MtS K mg f r) (ht : TwS K mg tw T) {σ : L2.St} {H : Hp} {Q : VK} (h : liftE K mg Wx (dBM tw f wo ws) σ H Q) : tBM K T r (liftE K mg Wx wo) (liftA K mg Wx ws) σ H Q := by
  obtain ⟨G, α, Γ, O, R, xe, sl, rel, h, p, xp⟩ := h
  refine ⟨G, α, Γ, O, _, xe, sl, rel, h, fun x O1 h1 v G1 α1 H1 e1 p1 rel1 r1 => ⟨ht _ _ _ _ _ _ rel1 r1 h1.1, ?_⟩, xp⟩
  exact ⟨G1, α1, Γ, O1, _, xe, sl.mono e1 p1, rel1, h1.2, fun xs O2 h2 vs G2 α2 H2 e2 p2 rel2 r2 => hs _ _ _ _ _ _ _ _ _ _ rel2 (r1.mono e2 p2) r2 h2 (p.mono (e1.trans e2) (p1.trans p2)), xp.mono e1 p1⟩
theorem de_bm (pa : PlainAttrs T) (slot : Slot T name id) (hty : typeOf (.builtin id) = pure (.type "method_descriptor")) (hm : MtR X id r) (hs : MtS X.K X.mg f r) (ht : TwS X.K X.mg tw T) (ho : DE X Wx o wo) (ha : DAs X Wx (e :: es) ws)
    (hbase : attributeBase o name X.env (eval o X.env) = eval o X.env := by rfl)
    (hfew : ((backTo cpos (starEach (e :: es) X.env)).all (fun x => !x.1) && (backToKw cpos (keywordEach [] X.env)).all (fun x => x.1.isSome)
      && decide ((e :: es).length + ([] : List Keyword).length + (if ([] : List Keyword).isEmpty then 0 else 1) < 30)) = true := by rfl)
    (hline : (apos.endLine == cpos.line) = true := by rfl) (h1 : starEach (e :: es) X.env = (false, eval e X.env) :: starEach es X.env := by rfl) (hplain : (backTo cpos (starEach es X.env)).any (·.1) = false := by rfl) :
    DE X Wx (.Call (.Attribute o name apos) (e :: es) [] cpos) (dBM tw f wo ws) := pe_imp (fun _ _ _ h => lift_bm hs ht h) (pe_bm pa slot hty hm ho ha hbase hfew hline h1 hplain)
variable {K : Fg} {mg : Str → Option Value}
/-- a cell's list is written -/
theorem Post.wr {G : Hp} {α : Al} {R : DK} {Q : VK} {x : W} {O : Oh} {H : Hp} {j : Nat} {a : Addr} {vs us : List V} {ws zs : List W} {v : V} (p : Post K mg G α R Q) (rel : Rel K mg G α O H) (ha : α.as[j]? = some a) (ej : O[j]? = some (.lst ws)) (g0 : G a = none) (hH : H a = some (.lst vs))
    (rz : RvL K G α us zs) (rx : Rv K G α v x) (q : R x (O.set j (.lst zs))) : Q v (upd H a (.lst us)) :=
  p.here q (rel.write (c := .lst zs) ha ej hH g0 (fun b z => by cases z) (fun b z => by cases z) ⟨g0, us, upd_same, rz⟩) rx
def dAppend : DM := fun x xs O R => match x, xs with
  | .c j, [y] => (match O[j]? with
    | some (.lst ws) => ws.length < 1000000 ∧ R (.d .none) (O.set j (.lst (ws ++ [y])))
    | _ => False)
  | _, _ => False
theorem s_append : MtS K mg dAppend rAppend := by
  intro G α O H x xs v vs R Q rel r1 rl h p
  unfold dAppend at h
  split at h
  · next j y =>
    split at h
    · next ws ej =>
      obtain ⟨u, rfl, ru⟩ := rv1 rl
      obtain ⟨a, ha, rfl⟩ := r1
      obtain ⟨g0, us, hH, rw'⟩ := rel.at_ j a _ ha ej
      exact ⟨a, us, u, rfl, rfl, hH, by rw [rw'.len]; exact szlt h.1, p.wr rel ha ej g0 hH (rw'.append (.cons ru .nil)) (show Rv K G α .non (.d .none) from Rp.non) h.2⟩
    · exact h.elim
  · exact h.elim
theorem RvL.eraseIdx {G : Hp} {α : Al} : ∀ {vs : List V} {ws : List W} (i : Nat), RvL K G α vs ws → RvL K G α (vs.eraseIdx i) (ws.eraseIdx i)
  | _, _, _, .nil => .nil
  | _, _, 0, .cons _ t => t
  | _, _, i + 1, .cons r t => .cons r (RvL.eraseIdx i t)
def dPopAt : DM := fun x xs O R => match x, xs with
  | .c j, [.d (.int i)] => (match O[j]? with
    | some (.lst ws) => ws.length ≤ 1000000 ∧ (match ixN ws.length i with
      | some m => (match ws[m]? with
        | some y => R y (O.set j (.lst (ws.eraseIdx m)))
        | none => False)
      | none => False)
    | _ => False)
  | _, _ => False
theorem s_popAt : MtS K mg dPopAt rPopAt := by
  intro G α O H x xs v vs R Q rel r1 rl h p
  unfold dPopAt at h
  split at h
  · next j i =>
    split at h
    · next ws ej =>
      obtain ⟨hz, h⟩ := h
      split at h
      · next m em =>
        split at h
        · next y ey =>
          obtain ⟨u, rfl, ru⟩ := rv1 rl
          cases ru
          obtain ⟨a, ha, rfl⟩ := r1
          obtain ⟨g0, us, hH, rw'⟩ := rel.at_ j a _ ha ej
          obtain ⟨s1, s2, s3, s4⟩ := ixN_seq em
          obtain ⟨z, hz', rz⟩ := rw'.get ey
          exact ⟨a, us, i, m, z, rfl, rfl, hH, by omega, by omega, by rw [rw'.len]; exact s1, hz', p.wr rel ha ej g0 hH (rw'.eraseIdx m) rz h⟩
        · exact h.elim
      · exact h.elim
    · exact h.elim
  · exact h.elim
theorem RvL.dropLast {G : Hp} {α : Al} {vs : List V} {ws : List W} (h : RvL K G α vs ws) : RvL K G α vs.dropLast ws.dropLast := by
  rw [List.dropLast_eq_take, List.dropLast_eq_take, h.len]
  exact h.take _
end
end Dl
namespace Dl
open PySem PySem.Spec PyProof.Rows L2
variable [TabsC]
/-! #### dicts: what is in one -/
section
variable {κ : Type} [DecidableEq κ]
def valW (kvs : List (κ × W)) (k : κ) : Option W := (kvs.find? fun kv => decide (kv.1 = k)).map (·.2)
def putW (kvs : List (κ × W)) (k : κ) (v : W) : List (κ × W) :=
  if (kvs.any fun kv => decide (kv.1 = k)) = true then kvs.map (fun kv => if kv.1 = k then (kv.1, v) else kv) else kvs ++ [(k, v)]
def dropW (kvs : List (κ × W)) (k : κ) : List (κ × W) := kvs.filter fun kv => decide (kv.1 ≠ k)
variable {K : Fg} {G : Hp} {α : Al}
theorem RK.len : ∀ {vs : List (κ × V)} {ws : List (κ × W)}, RK K G α vs ws → vs.length = ws.length
  | _, _, .nil => rfl
  | _, _, .cons _ t => by rw [List.length_cons, List.length_cons, RK.len t]
theorem RK.val (k : κ) : ∀ {vs : List (κ × V)} {ws : List (κ × W)}, RK K G α vs ws → (valV vs k = none ∧ valW ws k = none) ∨ ∃ v w, valV vs k = some v ∧ valW ws k = some w ∧ Rv K G α v w
  | _, _, .nil => .inl ⟨rfl, rfl⟩
  | (a, v) :: l, (b, w) :: m, .cons ⟨e, r⟩ t => by
    have e : a = b := e
    subst e
    by_cases h : a = k
    · subst h
      exact .inr ⟨v, w, valV_pos (p := (a, v)) rfl, by simp [valW, List.find?_cons], r⟩
    · have e1 : valV ((a, v) :: l) k = valV l k := valV_neg (p := (a, v)) h
      have e2 : valW ((a, w) :: m) k = valW m k := by simp [valW, List.find?_cons, h]
      rw [e1, e2]
      exact RK.val k t
theorem RK.any (k : κ) : ∀ {vs : List (κ × V)} {ws : List (κ × W)}, RK K G α vs ws → (vs.any fun kv => decide (kv.1 = k)) = (ws.any fun kv => decide (kv.1 = k))
  | _, _, .nil => rfl
  | _, _, .cons h t => by rw [List.any_cons, List.any_cons, RK.any k t, h.1]
theorem RK.app {us : List (κ × V)} {zs : List (κ × W)} (h : RK K G α us zs) : ∀ {vs : List (κ × V)} {ws : List (κ × W)}, RK K G α vs ws → RK K G α (vs ++ us) (ws ++ zs)
  | _, _, .nil => h
  | _, _, .cons q t => .cons q (RK.app h t)
theorem RK.map1 {k : κ} {v : V} {w : W} (r : Rv K G α v w) : ∀ {vs : List (κ × V)} {ws : List (κ × W)}, RK K G α vs ws → RK K G α (vs.map fun kv => if kv.1 = k then (kv.1, v) else kv) (ws.map fun kv => if kv.1 = k then (kv.1, w) else kv)
  | _, _, .nil => .nil
  | (a, x) :: _, (b, y) :: _, .cons h t => by
    refine .cons ?_ (RK.map1 r t)
    have e : a = b := h.1
    subst e
    show (if a = k then (a, v) else (a, x)).1 = (if a = k then (a, w) else (a, y)).1 ∧ Rv K G α (if a = k then (a, v) else (a, x)).2 (if a = k then (a, w) else (a, y)).2
    by_cases z : a = k
    · rw [if_pos z, if_pos z]
      exact ⟨rfl, r⟩
    · rw [if_neg z, if_neg z]
      exact h
theorem RK.put {k : κ} {v : V} {w : W} (r : Rv K G α v w) {vs : List (κ × V)} {ws : List (κ × W)} (h : RK K G α vs ws) : RK K G α (putK vs k v) (putW ws k w) := by
  unfold putK putW
  rw [h.any k]
  by_cases z : (ws.any fun kv => decide (kv.1 = k)) = true
  · rw [if_pos z, if_pos z]
    exact h.map1 r
  · rw [if_neg z, if_neg z]
    exact RK.app (.cons ⟨rfl, r⟩ .nil) h
theorem RK.drop (k : κ) : ∀ {vs : List (κ × V)} {ws : List (κ × W)}, RK K G α vs ws → RK K G α (dropK vs k) (dropW ws k)
  | _, _, .nil => .nil
  | (a, x) :: _, (b, y) :: _, .cons h t => by
    have e : a = b := h.1
    subst e
    unfold dropK dropW
    rw [List.filter_cons, List.filter_cons]
    show RK K G α (if decide (a ≠ k) = true then _ else _) (if decide (a ≠ k) = true then _ else _)
    by_cases z : decide (a ≠ k) = true
    · rw [if_pos z, if_pos z]
      exact .cons h (RK.drop k t)
    · rw [if_neg z, if_neg z]
      exact RK.drop k t
end
/-- a dict that never changes -/
def keysD : List (PyData × PyData) → Option (List (Key × W))
  | [] => some []
  | (.int i, d) :: r => match keysD r with
    | some kvs => some ((.inl i, .d d) :: kvs)
    | none => none
  | (.str x, d) :: r => match keysD r with
    | some kvs => some ((.inr x, .d d) :: kvs)
    | none => none
  | _ :: _ => none
def asDk : W → Oh → Option (List (Key × W))
  | .d (.dict kvs), _ => keysD kvs
  | .c j, O => match O[j]? with
    | some (.dic kvs) => some kvs
    | some (.ldic _ _ kvs) => some kvs
    | _ => none
  | _, _ => none
def asDt : W → Oh → Option (List (List Key × W))
  | .c j, O => match O[j]? with
    | some (.dct kvs) => some kvs
    | some (.ldct _ _ kvs) => some kvs
    | _ => none
  | _, _ => none
def keyW : W → Option Key
  | .d (.int i) => some (.inl i)
  | .d (.str x) => some (.inr x)
  | _ => none
def keyT : W → Option (List Key)
  | .k ks => some ks
  | _ => none
section
variable {K : Fg} {mg : Str → Option Value} {G : Hp} {α : Al} {O : Oh} {H : Hp}
theorem keysD_ok : ∀ {ds : List (PyData × PyData)} {es : List (Key × V)} {kvs : List (Key × W)}, RpK K G es ds → keysD ds = some kvs → RK K G α es kvs
  | [], _, _, h, e => by
    cases h
    cases e
    exact .nil
  | (q, d) :: r, _, _, h, e => by
    cases h with
    | @cons k v es _ _ _ e0 ok rp t =>
      subst e0
      cases k with
      | inl i =>
        unfold keyD keysD at e
        split at e
        · next kvs e2 => cases e; exact .cons ⟨rfl, rp⟩ (keysD_ok t e2)
        · cases e
      | inr x =>
        unfold keyD keysD at e
        split at e
        · next kvs e2 => cases e; exact .cons ⟨rfl, rp⟩ (keysD_ok t e2)
        · cases e
theorem asDk_ok {v : V} {x : W} {kvs : List (Key × W)} (rel : Rel K mg G α O H) (r : Rv K G α v x) (h : asDk x O = some kvs) : ∃ a es, v = .ref a ∧ Rd H a (.dK es) ∧ RK K G α es kvs := by
  unfold asDk at h
  split at h
  · next ds _ =>
    cases r with
    | scr ns hs => cases h
    | dk hg hk => exact ⟨_, _, rfl, .inr ⟨_, rel.ex _ _ hg⟩, keysD_ok hk h⟩
  · next O' j =>
    obtain ⟨a, ha, rfl⟩ := r
    split at h
    · next ws e =>
      cases h
      obtain ⟨_, es, hH, rk⟩ := rel.at_ j a _ ha e
      exact ⟨a, es, rfl, .inl hH, rk⟩
    · next ob es ws e =>
      cases h
      obtain ⟨_, hH, rk⟩ := rel.at_ j a _ ha e
      exact ⟨a, es, rfl, .inr ⟨ob, hH⟩, rk⟩
    · cases h
  · cases h
theorem asDt_ok {v : V} {x : W} {kvs : List (List Key × W)} (rel : Rel K mg G α O H) (r : Rv K G α v x) (h : asDt x O = some kvs) : ∃ a es, v = .ref a ∧ Rd H a (.dT es) ∧ RK K G α es kvs := by
  unfold asDt at h
  split at h
  · next O' j =>
    obtain ⟨a, ha, rfl⟩ := r
    split at h
    · next ws e =>
      cases h
      obtain ⟨_, es, hH, rk⟩ := rel.at_ j a _ ha e
      exact ⟨a, es, rfl, .inl hH, rk⟩
    · next ob es ws e =>
      cases h
      obtain ⟨_, hH, rk⟩ := rel.at_ j a _ ha e
      exact ⟨a, es, rfl, .inr ⟨ob, hH⟩, rk⟩
    · cases h
  · cases h
theorem keyW_ok {v : V} {x : W} {k : Key} (r : Rv K G α v x) (h : keyW x = some k) : v = kV k ∧ keyOk k = true := by
  unfold keyW at h
  split at h
  · cases h
    cases r
    exact ⟨rfl, rfl⟩
  · cases h
    cases r with | str _ o => exact ⟨rfl, o⟩
  · cases h
theorem keyT_ok {v : V} {x : W} {k : List Key} (r : Rv K G α v x) (h : keyT x = some k) : ∃ b, v = .ref b ∧ G b = some (.tup (k.map kV)) := by
  unfold keyT at h
  split at h
  · cases h
    obtain ⟨_, a, e, q⟩ := r
    exact ⟨a, e, q⟩
  · cases h
/-- what a dict tells of a key -/
def dGet (x y : W) (O : Oh) (k : Option W → Prop) : Prop := match asDk x O with
  | some kvs => (match keyW y with
    | some q => k (valW kvs q)
    | none => False)
  | none => (match asDt x O with
    | some kvs => (match keyT y with
      | some q => k (valW kvs q)
      | none => False)
    | none => False)
def isDictW (x : W) (O : Oh) : Bool := (asDk x O).isSome || (asDt x O).isSome
theorem dGet_ok {x y : W} {u v : V} {k : Option W → Prop} (rel : Rel K mg G α O H) (r1 : Rv K G α u x) (r2 : Rv K G α v y) (h : dGet x y O k) :
    ∃ a, u = .ref a ∧ ((DGet H a v none ∧ k none) ∨ ∃ z w, DGet H a v (some z) ∧ Rv K G α z w ∧ k (some w)) := by
  unfold dGet at h
  split at h
  · next kvs e =>
    split at h
    · next q eq =>
      obtain ⟨a, es, rfl, hr, rk⟩ := asDk_ok rel r1 e
      obtain ⟨rfl, _⟩ := keyW_ok r2 eq
      refine ⟨a, rfl, ?_⟩
      rcases rk.val q with ⟨e1, e2⟩ | ⟨z, w, e1, e2, r⟩
      · rw [e2] at h
        exact .inl ⟨.inl ⟨es, q, hr, rfl, e1.symm⟩, h⟩
      · rw [e2] at h
        exact .inr ⟨z, w, .inl ⟨es, q, hr, rfl, e1.symm⟩, r, h⟩
    · exact h.elim
  · split at h
    · next kvs e =>
      split at h
      · next q eq =>
        obtain ⟨a, es, rfl, hr, rk⟩ := asDt_ok rel r1 e
        obtain ⟨b, rfl, hb⟩ := keyT_ok r2 eq
        have hb' : H b = some (.tup (q.map kV)) := rel.ex _ _ hb
        refine ⟨a, rfl, ?_⟩
        rcases rk.val q with ⟨e1, e2⟩ | ⟨z, w, e1, e2, r⟩
        · rw [e2] at h
          exact .inl ⟨.inr ⟨es, q, b, hr, rfl, hb', e1.symm⟩, h⟩
        · rw [e2] at h
          exact .inr ⟨z, w, .inr ⟨es, q, b, hr, rfl, hb', e1.symm⟩, r, h⟩
      · exact h.elim
    · exact h.elim
end
/-! #### a[b], of dicts too -/
def rIxD : R2 := fun x y H Q => ∃ a v, x = .ref a ∧ DGet H a y (some v) ∧ Q v H
theorem isD_of {H : Hp} {a : Addr} {y : V} {o : Option V} (g : DGet H a y o) : IsD H a := by
  rcases g with ⟨kvs, k, e, _, _⟩ | ⟨kvs, k, b, e, _, _, _⟩
  · exact .inl ⟨_, e⟩
  · exact .inr ⟨_, e⟩
theorem ix_dict {X : Cx} (hu : X.A.units + 1 < cLine) : IxR X rIxD := by
  intro value slice pins s σ H x y v u Q I rx ry h hs
  obtain ⟨a, z, ex, g, q⟩ := h
  subst ex
  obtain rfl : v = Value.ref a := rx
  obtain ⟨t1, t2, t3⟩ := isD_at I (isD_of g)
  have got : wpAny (model X.prog X.w) X.A (getItem (.ref a) u) (EP X pins σ Q) X.xe s := d_getItem hu I g ry fun w' s' I' r' => ⟨z, H, I', r', q⟩
  show wpAny _ _ (subscriptTail value slice (.ref a) u) _ _ s
  unfold subscriptTail
  refine wpAny_bind ?_
  rw [getitemInPython_of_ne t1.not_modules]
  refine wpAny_bind (wpAny_specialOf t1 PySem.F.slot_dict_getitem.lookup ?_)
  have last : wpAny (model X.prog X.w) X.A (subscripted slice false (.ref a) u) (fun r s₃ => wpAny (model X.prog X.w) X.A (letTemporaryGo value (.ref a) r >>= fun _ => pure r) (EP X pins σ Q) X.xe s₃) X.xe s := by
    rw [hs]
    refine wpAny_operating (wpAny_mono got (fun r s₃ x => ?_) fun _ _ x => x)
    exact wpAny_bind (wpAny_letTemporaryGo (wpAny_pure x))
  first | exact wpAny_pure (wpAny_bind last) | exact wpAny_bind (wpAny_pure (wpAny_bind last)) | exact wpAny_bind last
def dIx2 : D2 := fun x y O R => if isDictW x O = true then dGet x y O (fun o => match o with
  | some w => R w O
  | none => False) else dIx x y O R
section
variable {K : Fg} {mg : Str → Option Value}
theorem s_ix2 : OpS K mg dIx2 (fun x y H Q => rIxD x y H Q ∨ rIx K x y H Q) := by
  intro G α O H x y u v R Q rel r1 r2 h p
  unfold dIx2 at h
  split at h
  · obtain ⟨a, rfl, h⟩ := dGet_ok rel r1 r2 h
    rcases h with ⟨_, h⟩ | ⟨z, w, g, r, h⟩
    · exact h.elim
    · exact .inl ⟨a, z, rfl, g, p.here h rel r⟩
  · exact .inr (s_ix _ _ _ _ _ _ _ _ _ _ rel r1 r2 h p)
end
section
variable {X : Cx} {Wx : WX} {k : Nat} {a b c e : Expr} {wa wb wc we : DEx} {pos p2 : Pos}
theorem de_ix2 (g : Good X Wx k) (ha : DE X Wx a wa) (hb : DE X Wx b wb) (hs : PlainIx b := by intro _ _; rfl) : DE X Wx (.Subscript a b pos) (dOp dIx2 wa wb) :=
  pe_imp (fun _ _ _ h => lift_op s_ix2 h) (pe_ix ((ix_dict (hu_of g.rm)).or ix_seq) ha hb hs)
end
/-! #### in, of dicts and of any data -/
def rInDk (neg : Bool) : R2 := fun x y H Q => ∃ a o, y = .ref a ∧ DGet H a x o ∧ Q (.bl (if neg then !o.isSome else o.isSome)) H
theorem op_in_dict {X : Cx} (hu : X.A.units + 1 < cLine) : OpR X (compareOp .In) (rInDk false) := by
  intro pins s σ H x y v u Q I rx ry h
  obtain ⟨a, o, ey, g, q⟩ := h
  subst ey
  obtain rfl : u = Value.ref a := ry
  exact d_in hu I g rx fun s' I' => ⟨.bl o.isSome, H, I', rfl, q⟩
theorem op_notin_dict {X : Cx} (hu : X.A.units + 1 < cLine) : OpR X (compareOp .NotIn) (rInDk true) := by
  intro pins s σ H x y v u Q I rx ry h
  obtain ⟨a, o, ey, g, q⟩ := h
  subst ey
  obtain rfl : u = Value.ref a := ry
  exact d_notIn hu I g rx fun s' I' => ⟨.bl (!o.isSome), H, I', rfl, q⟩
/-- in a list or a tuple of data -/
def rInAny (K : Fg) (neg : Bool) : R2 := fun x y H Q => ∃ d ds e, Dp K H x d ∧ Dp K H y e ∧ (e = .list ds ∨ e = .tuple ds) ∧ d.plain = true ∧ PyData.plainAll ds = true ∧ d.depth ≤ 64 ∧
  Q (.bl (if neg then !(ds.any fun z => PyData.eqv z d) else ds.any fun z => PyData.eqv z d)) H
theorem op_in_any {X : Cx} (hu : X.A.units + 100 < cLine) : OpR X (compareOp .In) (rInAny X.K false) := by
  intro pins s σ H x y v u Q I rx ry h
  obtain ⟨d, ds, e, hd, hy, he, p1, p2, hz, q⟩ := h
  obtain ⟨as, r1⟩ := Dp.reads I d x v hd rx
  obtain ⟨bs, r2⟩ := Dp.reads I e y u hy ry
  have hm : min (PyData.depthAll ds) d.depth ≤ 64 := Nat.le_trans (Nat.min_le_right _ _) hz
  rcases he with rfl | rfl
  · exact SeqAt.in_list_data r2 r1 p2 p1 (by omega) ⟨.bl (ds.any fun z => PyData.eqv z d), H, I, rfl, q⟩
  · exact SeqAt.in_tuple_data r2 r1 p2 p1 (by omega) ⟨.bl (ds.any fun z => PyData.eqv z d), H, I, rfl, q⟩
theorem op_notin_any {X : Cx} (hu : X.A.units + 100 < cLine) : OpR X (compareOp .NotIn) (rInAny X.K true) := by
  intro pins s σ H x y v u Q I rx ry h
  obtain ⟨d, ds, e, hd, hy, he, p1, p2, hz, q⟩ := h
  obtain ⟨as, r1⟩ := Dp.reads I d x v hd rx
  obtain ⟨bs, r2⟩ := Dp.reads I e y u hy ry
  have hm : min (PyData.depthAll ds) d.depth ≤ 64 := Nat.le_trans (Nat.min_le_right _ _) hz
  rcases he with rfl | rfl
  · exact SeqAt.notIn_list_data r2 r1 p2 p1 (by omega) ⟨.bl (!(ds.any fun z => PyData.eqv z d)), H, I, rfl, q⟩
  · exact SeqAt.notIn_tuple_data r2 r1 p2 p1 (by omega) ⟨.bl (!(ds.any fun z => PyData.eqv z d)), H, I, rfl, q⟩
theorem hu100 {A : Around} {k : Nat} (r : Room k A) : A.units + 100 < cLine := by have := r.un; omega
mutual
theorem shp_plain : ∀ (n : Nat) (d : PyData), shp n d = true → d.plain = true
  | n, .none, _ => rfl
  | n, .bool _, _ => rfl
  | n, .int _, _ => rfl
  | n, .str _, _ => rfl
  | 0, .list ds, h => by cases h
  | n + 1, .list ds, h => by simpa only [PyData.plain] using shp_plains n ds h
  | 0, .tuple ds, h => by cases h
  | n + 1, .tuple ds, h => by simpa only [PyData.plain] using shp_plains n ds h
  | 0, .dict _, h => by cases h
  | n + 1, .dict _, h => by cases h
theorem shp_plains : ∀ (n : Nat) (ds : List PyData), ds.all (shp n) = true → PyData.plainAll ds = true
  | n, [], _ => rfl
  | n, d :: ds, h => by
    rw [List.all_cons, Bool.and_eq_true] at h
    simp only [PyData.plainAll, Bool.and_eq_true]
    exact ⟨shp_plain n d h.1, shp_plains n ds h.2⟩
end
def seqD : PyData → Option (List PyData)
  | .list ds => some ds
  | .tuple ds => some ds
  | _ => none
def dIn2 (neg : Bool) : D2 := fun x y O R => if isDictW y O = true then dGet y x O (fun o => R (.d (.bool (if neg then !o.isSome else o.isSome))) O) else
  match x, y with
  | .d (.str i), .d (.str j) => R (.d (.bool (if neg then !strIn i j else strIn i j))) O
  | x, y => (match asD x O, asD y O with
    | some d, some e => (match seqD e with
      | some ds => shp 40 d = true ∧ shp 40 e = true ∧ R (.d (.bool (if neg then !(ds.any fun z => PyData.eqv z d) else ds.any fun z => PyData.eqv z d))) O
      | none => False)
    | _, _ => False)
theorem seqD_shp {e : PyData} {ds : List PyData} {n : Nat} (h : seqD e = some ds) (hs : shp (n + 1) e = true) : (e = .list ds ∨ e = .tuple ds) ∧ ds.all (shp n) = true := by
  cases e <;> first | (cases h; done) | skip
  · cases h; exact ⟨.inl rfl, hs⟩
  · cases h; exact ⟨.inr rfl, hs⟩
section
variable {K : Fg} {mg : Str → Option Value}
theorem s_in2 {neg : Bool} : OpS K mg (dIn2 neg) (fun x y H Q => rInS2 neg x y H Q ∨ rInDk neg x y H Q ∨ rInAny K neg x y H Q) := by
  intro G α O H x y u v R Q rel r1 r2 h p
  unfold dIn2 at h
  split at h
  · obtain ⟨a, rfl, h⟩ := dGet_ok rel r2 r1 h
    refine .inr (.inl ?_)
    rcases h with ⟨g, h⟩ | ⟨z, w, g, r, h⟩
    · exact ⟨a, none, rfl, g, p.here h rel (.bl _)⟩
    · exact ⟨a, some z, rfl, g, p.here h rel (.bl _)⟩
  · split at h
    · cases r1
      cases r2
      exact .inl ⟨_, _, rfl, rfl, p.here h rel (.bl _)⟩
    · next x y _ =>
      split at h
      · next d e e1 e2 =>
        split at h
        · next ds es =>
          obtain ⟨d1, s1⟩ := asD_ok rel r1 e1 h.1
          obtain ⟨d2, s2⟩ := asD_ok rel r2 e2 h.2.1
          obtain ⟨q1, q2⟩ := seqD_shp es h.2.1
          exact .inr (.inr ⟨d, ds, e, d1, d2, q1, shp_plain 40 d h.1, shp_plains 39 ds q2, Nat.le_trans (shp_depth 40 d h.1) (by decide), p.here h.2.2 rel (.bl _)⟩)
        · exact h.elim
      · exact h.elim
end
section
variable {X : Cx} {Wx : WX} {k : Nat}
theorem op_in5 (g : Good X Wx k) : OpR X (compareOp .In) (fun x y H Q => rInS2 false x y H Q ∨ rInDk false x y H Q ∨ rInAny X.K false x y H Q) := or_op op_in_str (or_op (op_in_dict (hu_of g.rm)) (op_in_any (hu100 g.rm)))
theorem op_notin5 (g : Good X Wx k) : OpR X (compareOp .NotIn) (fun x y H Q => rInS2 true x y H Q ∨ rInDk true x y H Q ∨ rInAny X.K true x y H Q) := or_op op_notIn_str (or_op (op_notin_dict (hu_of g.rm)) (op_notin_any (hu100 g.rm)))
end
/-! #### {} and d[k] = e -/
/-- a dict that will change, its keys ints and texts; tuples -/
def dDicK : DEx := fun _ O R _ => R (.c O.length) (O ++ [.dic []])
def dDicT : DEx := fun _ O R _ => R (.c O.length) (O ++ [.dct []])
/-- an empty dict that never changes -/
def dDicE : DEx := fun _ O R _ => R (.d (.dict [])) O
section
variable {X : Cx} {Wx : WX} {k : Nat} {a b c e : Expr} {wa wb wc we : DEx} {pos p2 : Pos}
theorem de_dicK : DE X Wx (.Dict [] [] pos) dDicK := by
  refine pe_imp (fun σ H Q ⟨G, α, Γ, O, R, xe, sl, rel, h, p, xp⟩ => ?_) pe_dnewK
  intro q hq
  have rel2 := rel.cell (o := .dK []) (c := .dic []) hq (fun b z => by cases z) ⟨rel.ex.free hq, [], upd_same, .nil⟩
  exact p _ _ h _ _ _ _ (Ex.refl _) Pre.push rel2 ⟨q, pre_len rel.len, rfl⟩
theorem de_dicT : DE X Wx (.Dict [] [] pos) dDicT := by
  refine pe_imp (fun σ H Q ⟨G, α, Γ, O, R, xe, sl, rel, h, p, xp⟩ => ?_) pe_dnewT
  intro q hq
  have rel2 := rel.cell (o := .dT []) (c := .dct []) hq (fun b z => by cases z) ⟨rel.ex.free hq, [], upd_same, .nil⟩
  exact p _ _ h _ _ _ _ (Ex.refl _) Pre.push rel2 ⟨q, pre_len rel.len, rfl⟩
/-! #### a dict is frozen -/
def tFrz (te : TE) : TE := fun σ H Q => te σ H fun v H1 => Q v H1 ∨ ∃ d u, v = .ref d ∧ H1 d = some u ∧ Mut (some u) ∧ ∀ od, Q v (upd H1 d (.frz od u))
theorem pe_frz {te : TE} (he : PE X e te) : PE X e (tFrz te) := by
  refine ⟨fun pins s σ H Q I h => ?_⟩
  refine thn (he.run pins s σ H _ I h) fun v s1 ⟨x, H1, I1, r, q⟩ => ?_
  rcases q with q | ⟨d, u, rfl, hd, mu, q⟩
  · exact ⟨x, H1, I1, r, q⟩
  · obtain ⟨od, I2⟩ := I1.lock hd mu
    exact ⟨_, _, I2, r, q od⟩
/-- o[i] = v, of a list or a dict -/
def dPutIx (o i v : W) (O : Oh) (k : Oh → Prop) : Prop := match o with
  | .c j => (match O[j]? with
    | some (.lst ws) => (match i with
      | .d (.int n) => (match ixN ws.length n with
        | some m => k (O.set j (.lst (ws.set m v)))
        | none => False)
      | _ => False)
    | some (.dic kvs) => (match keyW i with
      | some q => kvs.length < 1000000 ∧ k (O.set j (.dic (putW kvs q v)))
      | none => False)
    | some (.dct kvs) => (match keyT i with
      | some q => kvs.length < 1000000 ∧ k (O.set j (.dct (putW kvs q v)))
      | none => False)
    | _ => False)
  | _ => False
def dSetI (wo wi we : DEx) : DSt := fun D xe Γ O => we Γ O (fun v O1 => wo Γ O1 (fun o O2 => wi Γ O2 (fun i O3 => dPutIx o i v O3 fun O4 => D.nx Γ O4) xe) xe) xe
theorem putIx_ok {K : Fg} {mg : Str → Option Value} {G : Hp} {α : Al} {O : Oh} {H : Hp} {o i v : W} {ov iv vv : V} {k : Oh → Prop} {Q : Hp → Prop} (rel : Rel K mg G α O H) (r1 : Rv K G α ov o) (r2 : Rv K G α iv i) (r3 : Rv K G α vv v) (h : dPutIx o i v O k)
    (q : ∀ O' H', k O' → Rel K mg G α O' H' → Q H') : rSetL ov iv vv H Q ∨ rSetD ov iv vv H Q := by
  unfold dPutIx at h
  split at h
  · next j =>
    obtain ⟨a, ha, rfl⟩ := r1
    split at h
    · next ws ej =>
      split at h
      · next n =>
        split at h
        · next m em =>
          cases r2
          obtain ⟨g0, vs, hH, rl⟩ := rel.at_ j a _ ha ej
          refine .inl ⟨a, vs, n, m, rfl, rfl, hH, by rw [rl.len]; exact em, ?_⟩
          exact q _ _ h (rel.write (o := .lst (vs.set m vv)) (c := .lst (ws.set m v)) ha ej hH g0 (fun b z => by cases z) (fun b z => by cases z) ⟨g0, _, upd_same, rl.set r3 m⟩)
        · exact h.elim
      · exact h.elim
    · next kvs ej =>
      split at h
      · next y ey =>
        obtain ⟨rfl, _⟩ := keyW_ok r2 ey
        obtain ⟨g0, es, hH, rk⟩ := rel.at_ j a _ ha ej
        refine .inr ⟨a, _, rfl, DPut.k hH (by rw [rk.len]; exact szlt h.1), ?_⟩
        exact q _ _ h.2 (rel.write (o := .dK (putK es y vv)) (c := .dic (putW kvs y v)) ha ej hH g0 (fun b z => by cases z) (fun b z => by cases z) ⟨g0, _, upd_same, rk.put r3⟩)
      · exact h.elim
    · next kvs ej =>
      split at h
      · next y ey =>
        obtain ⟨b, rfl, hb⟩ := keyT_ok r2 ey
        obtain ⟨g0, es, hH, rk⟩ := rel.at_ j a _ ha ej
        refine .inr ⟨a, _, rfl, DPut.t hH (rel.ex _ _ hb) (by rw [rk.len]; exact szlt h.1), ?_⟩
        exact q _ _ h.2 (rel.write (o := .dT (putK es y vv)) (c := .dct (putW kvs y v)) ha ej hH g0 (fun b z => by cases z) (fun b z => by cases z) ⟨g0, _, upd_same, rk.put r3⟩)
      · exact h.elim
    · exact h.elim
  · exact h.elim
theorem set_or {t t' : TSet} (h : PSet X t) (h' : PSet X t') : PSet X (fun o i v H Q => t o i v H Q ∨ t' o i v H Q) := by
  intro pins s σ H o i v ov iv u Q I r1 r2 r3 q
  rcases q with q | q
  · exact h pins s σ H o i v ov iv u Q I r1 r2 r3 q
  · exact h' pins s σ H o i v ov iv u Q I r1 r2 r3 q
theorem ds_setI (g : Good X Wx k) {pos' : Pos} (ho : DE X Wx a wa) (hi : DE X Wx b wb) (he : DE X Wx e we) (hs : swapsWithSole [.Subscript a b pos'] e pos.line X.env = pure false := by rfl) (hw : swappedStores [.Subscript a b pos'] e X.env = pure none := by rfl)
    (h1 : (assignEach [.Subscript a b pos'] X.env).map (·.2) = [assign (.Subscript a b pos') X.env] := by rfl)
    (hA : ∀ v, assign (.Subscript a b pos') X.env v = (do
      let ov ← holding [v] (eval a X.env)
      let iv ← holding [v, ov] (eval b X.env)
      standAt pos'
      holding [v, ov, iv] (setItem ov iv v)
      release [v, ov, iv] []) := by intro _; rfl) : DS X Wx (.Assign [.Subscript a b pos'] e pos) (dSetI wa wb we) := by
  refine ps_imp (fun D σ H ⟨G, α, Γ, O, DD, xe, sl, rel, h, p, xp⟩ => ?_) (ps_asg he (pg_sub ho hi (set_or set_list (set_dict (hu_of g.rm))) hA) hs hw h1)
  refine ⟨G, α, Γ, O, _, xe, sl, rel, h, fun y O1 h1 v G1 α1 H1 e1 p1 rel1 r1 => ?_, xp⟩
  refine ⟨G1, α1, Γ, O1, _, xe, sl.mono e1 p1, rel1, h1, fun o O2 h2 ov G2 α2 H2 e2 p2 rel2 r2 => ?_, xp.mono e1 p1⟩
  refine ⟨G2, α2, Γ, O2, _, xe, sl.mono (e1.trans e2) (p1.trans p2), rel2, h2, fun i O3 h3 iv G3 α3 H3 e3 p3 rel3 r3 => ?_, xp.mono (e1.trans e2) (p1.trans p2)⟩
  have e13 := e1.trans (e2.trans e3)
  have p13 := p1.trans (p2.trans p3)
  exact putIx_ok rel3 (r2.mono e3 p3) r3 (r1.mono (e2.trans e3) (p2.trans p3)) h3 fun O' H' q rel' => p.nx _ _ q _ _ _ _ e13 p13 rel' (sl.mono e13 p13)
end
/-! #### list(d) -/
def dListOf2 : DC := fun xs O R => match xs with
  | [x] => (match asDk x O with
    | some kvs => kvs.length ≤ 1000000 ∧ (kvs.map (·.1)).all keyOk = true ∧ R (.d (.list (kvs.map fun kv => keyD kv.1))) O
    | none => dListOf [x] O R)
  | _ => False
def dListC2 : DC := fun xs O R => match xs with
  | [x] => (match asDk x O with
    | some kvs => kvs.length ≤ 1000000 ∧ (kvs.map (·.1)).all keyOk = true ∧ R (.c O.length) (O ++ [.lst (kvs.map fun kv => .d (keyD kv.1))])
    | none => dListC [x] O R)
  | _ => False
abbrev rListD2 (K : Fg) : List V → Hp → VK → Prop := fun xs H Q => (∃ (a : Addr) (kvs : List (Key × V)), xs = [.ref a] ∧ Rd H a (.dK kvs) ∧ ∀ p, H p = none → Q (.ref p) (upd H p (.lst (kvs.map fun kv => kV kv.1)))) ∨ rListOf K xs H Q
section
variable {K : Fg} {mg : Str → Option Value}
theorem RK.keys {G : Hp} {α : Al} : ∀ {es : List (Key × V)} {kvs : List (Key × W)}, RK K G α es kvs → es.map (fun kv => kV kv.1) = (kvs.map (·.1)).map kV
  | _, _, .nil => rfl
  | _, _, .cons h t => by rw [List.map_cons, List.map_cons, List.map_cons, RK.keys t, h.1]
theorem keyD_map (kvs : List (Key × W)) : (kvs.map fun kv => keyD kv.1) = (kvs.map (·.1)).map keyD := by rw [List.map_map]; rfl
theorem s_listOf2 : CallS K mg dListOf2 (rListD2 K) := by
  intro G α O H xs vs R Q rel rl h p
  unfold dListOf2 at h
  split at h
  · next x =>
    split at h
    · next kvs e =>
      obtain ⟨v, rfl, rv⟩ := rv1 rl
      obtain ⟨a, es, rfl, hr, rk⟩ := asDk_ok rel rv e
      refine .inl ⟨a, es, rfl, hr, fun l hl => ?_⟩
      have ge := rel.ex.free hl
      refine p.lay h.2.2 rel hl (.lst upd_same ?_)
      rw [rk.keys, keyD_map]
      exact (RpL.keys h.2.1).mono (Ex.new ge)
    · exact .inr (s_listOf _ _ _ _ _ _ _ _ rel rl h p)
  · exact h.elim
theorem s_listC2 : CallS K mg dListC2 (rListD2 K) := by
  intro G α O H xs vs R Q rel rl h p
  unfold dListC2 at h
  split at h
  · next x =>
    split at h
    · next kvs e =>
      obtain ⟨v, rfl, rv⟩ := rv1 rl
      obtain ⟨a, es, rfl, hr, rk⟩ := asDk_ok rel rv e
      refine .inl ⟨a, es, rfl, hr, fun l hl => ?_⟩
      have rr : RvL K G α (es.map fun kv => kV kv.1) (kvs.map fun kv => .d (keyD kv.1)) := by
        have q := RvL.ofD (α := α) (RpL.keys (K := K) (G := G) h.2.1)
        rw [rk.keys]
        have e2 : (kvs.map fun kv => W.d (keyD kv.1)) = ((kvs.map (·.1)).map keyD).map W.d := by rw [List.map_map, List.map_map]; rfl
        rw [e2]
        exact q
      have rel2 := rel.cell (o := .lst (es.map fun kv => kV kv.1)) (c := .lst (kvs.map fun kv => .d (keyD kv.1))) hl (fun b z => by cases z) ⟨rel.ex.free hl, _, upd_same, rr.mono (Ex.refl _) Pre.push⟩
      exact p _ _ h.2.2 _ _ _ _ (Ex.refl _) Pre.push rel2 ⟨l, pre_len rel.len, rfl⟩
    · exact .inr (s_listC _ _ _ _ _ _ _ _ rel rl h p)
  · exact h.elim
end
theorem call_list2 {X : Cx} (hc : X.calm = true) : CallR X (.type "list") (rListD2 X.K) := or_call (call_listD hc) call_list_of
end Dl
namespace Dl
open PySem PySem.Spec PyProof.Rows L2
variable [TabsC]
/-! #### isinstance with a built-in class -/
def tyW : W → Oh → Option String
  | .d .none, _ => some "NoneType"
  | .d (.bool _), _ => some "bool"
  | .d (.int _), _ => some "int"
  | .d (.str _), _ => some "str"
  | .d (.list _), _ => some "list"
  | .d (.tuple _), _ => some "tuple"
  | .d (.dict []), _ => some "dict"
  | .d (.dict ((.int _, _) :: _)), _ => some "dict"
  | .d (.dict ((.str _, _) :: _)), _ => some "dict"
  | .k _, _ => some "tuple"
  | .c j, O => match O[j]? with
    | some (.lst _) => some "list"
    | some (.dic _) => some "dict"
    | some (.dct _) => some "dict"
    | _ => none
  | _, _ => none
def subT (t T : String) : Bool := t == T || (t == "bool" && T == "int")
theorem kit_ty {K : Fg} {t T : String} (ht : t ∈ ["NoneType", "bool", "int", "str", "list", "tuple", "dict"]) (hT : T ∈ ["int", "bool", "str", "list", "tuple", "dict"]) : PySem.W.kitOne K (.type t) (.type T) = some (subT t T) := by
  simp only [List.mem_cons, List.mem_nil_iff, or_false] at ht hT
  rcases ht with rfl | rfl | rfl | rfl | rfl | rfl | rfl <;> rcases hT with rfl | rfl | rfl | rfl | rfl | rfl <;> rfl
section
variable {K : Fg} {mg : Str → Option Value} {G : Hp} {α : Al} {O : Oh} {H : Hp}
theorem sqT_ty {a : Addr} {xs : List V} (h : SqT K H a xs) : TyX K H (.ref a) (.type "tuple") := by
  rcases h with (h | ⟨o, h⟩) | ⟨o, its, n, hk, hc, _⟩
  · exact .base (.tup h)
  · exact .fTuple h
  · exact .kTuple hk hc
theorem tyW_ok {v : V} {x : W} {t : String} (rel : Rel K mg G α O H) (r : Rv K G α v x) (h : tyW x O = some t) : TyX K H v (.type t) ∧ t ∈ ["NoneType", "bool", "int", "str", "list", "tuple", "dict"] := by
  unfold tyW at h
  split at h <;> try (cases h; done)
  · cases h; cases r; exact ⟨.base .non, by simp⟩
  · cases h; cases r; exact ⟨.base (.bl _), by simp⟩
  · cases h; cases r; exact ⟨.base (.int _), by simp⟩
  · cases h; cases r; exact ⟨.base (.str _), by simp⟩
  · cases h
    cases r with | lst hs ha => exact ⟨.base (.lst (rel.ex _ _ hs)), by simp⟩
  · cases h
    cases r with | tup hs td ha => exact ⟨sqT_ty (rel.ex.sqT hs), by simp⟩
  · cases h
    cases r with
    | dk hg hk => exact ⟨.fDict (rel.ex _ _ hg), by simp⟩
  · cases h
    cases r with | dk hg hk => exact ⟨.fDict (rel.ex _ _ hg), by simp⟩
  · cases h
    cases r with | dk hg hk => exact ⟨.fDict (rel.ex _ _ hg), by simp⟩
  · cases h
    obtain ⟨_, a, rfl, q⟩ := r
    exact ⟨.base (.tup (rel.ex _ _ q)), by simp⟩
  · next O' j =>
    obtain ⟨a, ha, rfl⟩ := r
    split at h
    · next ws e => cases h; obtain ⟨_, vs, hH, _⟩ := rel.at_ j a _ ha e; exact ⟨.base (.lst hH), by simp⟩
    · next ws e => cases h; obtain ⟨_, vs, hH, _⟩ := rel.at_ j a _ ha e; exact ⟨.base (.dK hH), by simp⟩
    · next ws e => cases h; obtain ⟨_, vs, hH, _⟩ := rel.at_ j a _ ha e; exact ⟨.base (.dT hH), by simp⟩
    · cases h
end
def dIsi (T : String) (we : DEx) : DEx := fun Γ O R xe => we Γ O (fun x O1 => match tyW x O1 with
  | some t => R (.d (.bool (subT t T))) O1
  | none => False) xe
section
variable {X : Cx} {Wx : WX} {k : Nat} {a b c e : Expr} {wa wb wc we : DEx} {pos p2 : Pos}
theorem de_isi {T : String} {x : Str} {p pT pos : Pos} (hT : T ∈ ["int", "bool", "str", "list", "tuple", "dict"]) (hx : bootBuiltins x = some (.type T)) (hm : X.mg "isinstance" = none) (hm2 : X.mg x = none) (ha : DE X Wx e we) (hv : bootBuiltins "isinstance" = some (.builtin "isinstance")) (hg : Gl X "isinstance" := by rfl) (hg2 : Gl X x := by rfl)
    (hn2 : x ≠ "__name__" := by decide) (hd2 : (x == ("__debug__" : Str)) = false := by decide)
    (hs : starEach (e :: [.Name x pT]) X.env = (false, eval e X.env) :: starEach [.Name x pT] X.env := by rfl) (hs2 : starEach [.Name x pT] X.env = (false, eval (.Name x pT) X.env) :: starEach [] X.env := by rfl)
    (hpl : (backTo pos (starEach [.Name x pT] X.env)).any (·.1) = false := by rfl) :
    DE X Wx (.Call (.Name "isinstance" p) [e, .Name x pT] [] pos) (dIsi T we) := by
  have hb : PE X (.Name x pT) (tC (.ty T)) := pe_bltn hg2 hm2 hx rfl (hn := hn2) (hd := hd2)
  refine pe_imp (fun σ H Q ⟨G, α, Γ, O, R, xe, sl, rel, h, p, xp⟩ => ?_) (pe_callB call_isi hg hm hv (pa_cons ha (pa_cons hb pa_nil hs2) hs) (he := hs) (hpl := hpl))
  refine ⟨G, α, Γ, O, _, xe, sl, rel, h, fun y O1 h1 v G1 α1 H1 e1 p1 rel1 r1 => ?_, xp⟩
  dsimp only at h1
  split at h1
  · next t et =>
    obtain ⟨ty, ht⟩ := tyW_ok rel1 r1 et
    exact ⟨v, .ty T, .type t, .type T, subT t T, rfl, .ty T, ty, kit_ty ht hT, p _ _ h1 _ _ _ _ e1 p1 rel1 (.bl _)⟩
  · exact h1.elim
end
/-! #### sorted -/
def alikeB (ds : List PyData) : Bool := ds.all fun d => ds.all fun e => PySem.W.alike d e
def sortableB (ds : List PyData) : Bool := (ds.all fun d => match d with
  | .tuple (_ :: _) => true
  | _ => false) || ds.all fun d => match d with
  | .none => false
  | .tuple _ => false
  | _ => true
def srtD (ds : List PyData) : List PyData := ds.mergeSort (PySem.W.dataLe false fun d => d)
theorem alikeB_ok {ds : List PyData} (h : alikeB ds = true) : PySem.W.AllAlike ds := by
  intro d hd e he
  exact List.all_eq_true.mp (List.all_eq_true.mp h d hd) e he
theorem sortableB_ok {ds : List PyData} (h : sortableB ds = true) : PySem.W.Sortable ds := by
  unfold sortableB at h
  rcases Bool.or_eq_true_iff.mp h with h | h
  · refine .inl fun d hd => ?_
    have q := List.all_eq_true.mp h d hd
    match d, q with
    | .tuple (x :: r), _ => exact ⟨x, r, rfl⟩
  · refine .inr fun d hd => ?_
    have q := List.all_eq_true.mp h d hd
    refine ⟨fun z => ?_, fun xs z => ?_⟩
    · subst z; cases q
    · subst z; cases q
section
variable {prog : Program} {w : World} {A : Around} {E : Value → Shared → Prop} {s : Shared}
/-- what sorted gathers of a tuple -/
theorem gather_tup {l : Addr} {vs : List Value} {Q : List Value → Shared → Prop} (ht : s.heap.IsTuple l vs.toArray) (hz : vs.length ≤ sizeLine)
    (q : Q vs { s with heap := (s.heap.push (seqObj "list" #[] 0)).update s.heap.objs.size (Obj.mapSeq (· ++ vs.toArray)) }) : wpAny (model prog w) A (collect (.ref l)) Q E s := by
  obtain ⟨ob, g, gc, n, gd⟩ := ht
  have g2 : (s.heap.push (seqObj "list" #[] 0)).get? l = some ob := Heap.get?_push_of_some _ g
  have g3 : (s.heap.push (seqObj "list" #[] 0)).get? s.heap.objs.size = some (seqObj "list" #[] 0) := Heap.get?_push_size _ rfl
  unfold collect
  refine wpAny_bind (wpAny_runValue (codeAny_builtin entry_proto_collect' ?_))
  show wpAny _ _ (do again (.builtin "list.__iadd__" ⟨[← newList [], .ref l], []⟩)) _ _ s
  refine wpAny_bind (wpAny_newList (wpAny_pure ⟨Code.quiet_builtin _ (by decide +kernel), codeAny_builtin entry_list_iadd' ?_⟩))
  show wpAny _ _ (Builtin.List.listExtendWith (.ref s.heap.objs.size) (.ref l) (.ref s.heap.objs.size)) _ _ { s with heap := s.heap.push (seqObj "list" #[] 0) }
  unfold Builtin.List.listExtendWith
  refine wpAny_bind (wpAny_typeOf (T := "tuple") ⟨ob, g2, gc⟩ ?_)
  rw [if_pos (by have z : (Value.type "tuple" == Value.type "tuple") = true := by rfl
                 rw [z]; simp)]
  refine wpAny_bind (listItems_at g2 gd ?_)
  refine wpAny_bind (listItems_at (xs := #[]) (n := 0) g3 rfl ?_)
  rw [if_neg (by simp)]
  refine wpAny_bind (listUpdate_at (xs := #[]) (n := 0) g3 rfl ?_ (Nat.zero_le _) (by show (#[] ++ vs.toArray).size ≤ sizeLine + 1; simp only [Array.size_append, List.size_toArray, List.length_nil]; omega))
  refine wpAny_pure ?_
  show wpAny (model prog w) A (do
      let o ← load s.heap.objs.size
      match o.data with
      | .seq xs _ => pure xs.toList
      | _ => unsupported "internal:collect") Q E { s with heap := (s.heap.push (seqObj "list" #[] 0)).update s.heap.objs.size (Obj.mapSeq (· ++ vs.toArray)) }
  refine wpAny_bind (wpAny_load (get?_update_seq g3 _) ?_)
  have e : ((#[] : Array Value) ++ vs.toArray).toList = vs := by simp
  show wpAny _ _ (pure ((#[] : Array Value) ++ vs.toArray).toList) Q E _
  rw [e]
  exact wpAny_pure q
open PySem.W PySem.Calls in
/-- sorted of a tuple, by list.sort of a new list -/
theorem sorted_tup_by {l : Addr} {vs : List Value} {Q : Value → Shared → Prop} (ht : s.heap.IsTuple l vs.toArray) (hz : vs.length ≤ sizeLine)
    (body : ∀ E' : Value → Shared → Prop, wpAny (model prog w) A.in1.in1 (Builtin.«list.sort» ⟨[.ref (s.heap.objs.size + 1)], []⟩) (fun f s' => f = .done (.ret .none) ∧ Q (.ref (s.heap.objs.size + 1)) s') E' { s with heap := copyHeap s.heap vs }) :
    wpAny (model prog w) A (call (.builtin "sorted") [.ref l]) Q E s := by
  refine call_function_entry_kw kind_sorted plain_sorted entry_sorted (args_sorted1 _) ?_
  unfold Builtin.«sorted»
  refine wpAny_bind (m := checkCount "sorted" 1 1 _) (wpAny_pure ?_)
  refine wpAny_bind (gather_tup ht hz ?_)
  refine wpAny_bind (wpAny_newList ?_ hz)
  have z : ((s.heap.push (seqObj "list" #[] 0)).update s.heap.objs.size (Obj.mapSeq (· ++ vs.toArray))).objs.size = s.heap.objs.size + 1 := (Heap.size_update ..).trans (size_push' _ _)
  show wpAny _ _ _ _ _ { s with heap := copyHeap s.heap vs }
  rw [z]
  refine wpAny_bind (wpAny_holding (wpAny_call_entry_kw slot_list_sort ⟨_, copyHeap_at s.heap vs, rfl⟩ entry_list_sort ?_ (args_list_sort _)))
  show wpAny (model prog w) A.in1.in1 (Builtin.«list.sort» ⟨[.ref (s.heap.objs.size + 1)], []⟩) _ _ _
  refine wpAny_mono (body _) (fun f s' hf => ?_) fun _ _ e => e
  obtain ⟨ef, hq⟩ := hf
  subst ef
  exact ⟨_, rfl, wpAny_pure ⟨_, rfl, hq⟩⟩
open PySem.W in
/-- sorted of a list or a tuple that reads as data -/
theorem sorted_seq {β : Type} {l : Addr} {vs : List Value} {bs : List β} {enc : β → PyData} {R : Value → β → Prop} {Q : Value → Shared → Prop} (hl : s.heap.IsList l vs.toArray ∨ s.heap.IsTuple l vs.toArray) (e : EachIs R vs bs) (er : EachIs (fun v b => ∃ as, Reads s.heap v (enc b) as) vs bs) (hal : AllAlike (bs.map enc)) (hk : Sortable (bs.map enc)) (hL : bs.length ≤ sizeLine)
    (hu : ∀ b, b ∈ bs → A.units + 2 + (enc b).depth < cLine) (h : ∀ out, out.length = bs.length → EachIs R out (bs.mergeSort (dataLe false enc)) → Q (.ref (s.heap.objs.size + 1)) { s with heap := sortedAll s.heap vs (List.toArray out) }) :
    wpAny (model prog w) A (call (.builtin "sorted") [.ref l]) Q E s := by
  rcases hl with hl | hl
  · exact sorted_data hl e er hal hk hL hu h
  · have er2 : EachIs (fun v b => ∃ as, Reads (sortingHeap (copyHeap s.heap vs) (s.heap.objs.size + 1) vs) v (enc b) as) vs bs := er.mono fun _ _ ⟨as, r⟩ => ⟨as, PyProof.Rows.Reads.keeps (fun _ _ => sorting_copy_old) r⟩
    have hz : vs.length ≤ sizeLine := by rw [e.length]; exact hL
    have S := SortsAt.data (prog := prog) (w := w) (A := A.in1.in1) (s := { s with heap := sortingHeap (copyHeap s.heap vs) (s.heap.objs.size + 1) vs }) (each_map (R := fun v d => ∃ as, Reads (sortingHeap (copyHeap s.heap vs) (s.heap.objs.size + 1) vs) v d as) enc er2) hal hk (bound_map hu)
    refine sorted_tup_by hl hz fun _ => list_sort_vals (s := { s with heap := copyHeap s.heap vs }) (copyHeap_at s.heap vs) S hz ⟨rfl, ?_⟩
    exact h _ (by rw [sortVals_length false rfl]; exact e.length) (sortVals_data false e er2 hal)
end
/-- sorted of a list or tuple of data -/
def rSortD (K : Fg) : List V → Hp → VK → Prop := fun xs H Q => ∃ (a : Addr) (vs : List V) (ds : List PyData), xs = [.ref a] ∧ (SqL K H a vs ∨ SqT K H a vs) ∧ DpAll K H vs ds ∧ alikeB ds = true ∧ sortableB ds = true ∧ (∀ d ∈ ds, d.depth ≤ 64) ∧
  ∀ p, H p = none → Q (.ref p) (upd H p (.lst (((vs.zip ds).mergeSort (PySem.W.dataLe false Prod.snd)).map Prod.fst)))
theorem zip_snd : ∀ {vs : List V} {ds : List PyData}, vs.length = ds.length → (vs.zip ds).map Prod.snd = ds
  | [], [], _ => rfl
  | v :: vs, d :: ds, h => by
    rw [List.zip_cons_cons, List.map_cons, zip_snd (by simpa using h)]
theorem dpAll_len {K : Fg} {H : Hp} : ∀ {ds : List PyData} {vs : List V}, DpAll K H vs ds → vs.length = ds.length
  | [], _, h => by cases h; rfl
  | d :: ds, _, h => by
    cases h with | cons _ t => rw [List.length_cons, List.length_cons, dpAll_len t]
theorem srt_out {vs : List V} {ds : List PyData} (h : vs.length = ds.length) : ((vs.zip ds).mergeSort (PySem.W.dataLe false Prod.snd)).map Prod.snd = srtD ds := by
  unfold srtD
  conv => rhs; rw [← zip_snd h]
  exact List.map_mergeSort fun a _ b _ => rfl
theorem each_of {X : Cx} {pins : List (Addr × Obj)} {σ : L2.St} {H : Hp} {s : Shared} (I : Inv X pins σ H s) : ∀ {ds : List PyData} {vs : List V} {its : List Value}, DpAll X.K H vs ds → Vals vs its →
    PySem.W.EachIs (fun (v : Value) (b : V × PyData) => RelV b.1 v) its (vs.zip ds) ∧ PySem.W.EachIs (fun (v : Value) (b : V × PyData) => ∃ as, Reads s.heap v b.2 as) its (vs.zip ds)
  | [], _, _, h, r => by
    cases h
    cases r
    exact ⟨.nil, .nil⟩
  | d :: ds, _, _, h, r => by
    cases h with
    | cons h1 h2 =>
      cases r with
      | cons r1 r2 =>
        obtain ⟨q1, q2⟩ := each_of I h2 r2
        obtain ⟨as, q⟩ := Dp.reads I d _ _ h1 r1
        exact ⟨.cons r1 q1, .cons ⟨as, q⟩ q2⟩
theorem each_vals : ∀ {out : List Value} {bs : List (V × PyData)}, PySem.W.EachIs (fun (v : Value) (b : V × PyData) => RelV b.1 v) out bs → Vals (bs.map Prod.fst) out
  | _, _, .nil => .nil
  | _, _, .cons h t => .cons h (each_vals t)
theorem cr_sortD {X : Cx} (hu : X.A.units + 100 < cLine) : CallR X (.builtin "sorted") (rSortD X.K) := by
  intro pins s σ H xs us Q I r h
  obtain ⟨a, vs, ds, rfl, hs, dp, al, so, hd, q⟩ := h
  obtain rfl := Vals.ref1 r
  obtain ⟨its, rv, hl, hz⟩ : ∃ its : List Value, Vals vs its ∧ (s.heap.IsList a its.toArray ∨ s.heap.IsTuple a its.toArray) ∧ vs.length ≤ sizeLine := by
    rcases hs with hs | hs
    · obtain ⟨its, rv, pl, hz⟩ := I.list hs
      exact ⟨its, rv, .inl pl.isList, hz⟩
    · obtain ⟨its, rv, pl, hz⟩ := I.tuple hs
      exact ⟨its, rv, .inr pl, hz⟩
  have hlen := dpAll_len dp
  obtain ⟨e1, e2⟩ := each_of I dp rv
  have hm := zip_snd hlen
  refine sorted_seq (enc := Prod.snd) hl e1 e2 (by rw [hm]; exact alikeB_ok al) (by rw [hm]; exact sortableB_ok so) (by rw [List.length_zip]; omega) (fun b hb => ?_) fun out ho he => ?_
  · have hb2 : b.2 ∈ ds := by rw [← hm]; exact List.mem_map.mpr ⟨b, hb, rfl⟩
    have := hd _ hb2
    omega
  · obtain ⟨ep, at'⟩ := PyProof.Rows.sortedAll_at s.heap its out.toArray
    have lz : (((vs.zip ds).mergeSort (PySem.W.dataLe false Prod.snd)).map Prod.fst).length ≤ sizeLine := by rw [List.length_map, List.length_mergeSort, List.length_zip]; omega
    exact ⟨.ref _, upd H (s.heap.objs.size + 1) (.lst (((vs.zip ds).mergeSort (PySem.W.dataLe false Prod.snd)).map Prod.fst)), I.laid (t' := s.toks) (fun _ _ => PyProof.Rows.sortedAll_old) (Nat.le_succ _) ⟨lz, out, ep, each_vals he, at'⟩, rfl, q _ (I.hok.fresh (Nat.le_succ _))⟩
def strsD : List PyData → Option (List Str)
  | [] => some []
  | .str x :: r => match strsD r with
    | some xs => some (x :: xs)
    | none => none
  | _ :: _ => none
theorem strsD_eq : ∀ {ds : List PyData} {xs : List Str}, strsD ds = some xs → ds = xs.map PyData.str
  | [], xs, h => by cases h; rfl
  | .str x :: r, xs, h => by
    unfold strsD at h
    split at h
    · next ys e => cases h; rw [strsD_eq e]; rfl
    · cases h
  | .none :: _, _, h => by cases h
  | .bool _ :: _, _, h => by cases h
  | .int _ :: _, _, h => by cases h
  | .list _ :: _, _, h => by cases h
  | .tuple _ :: _, _, h => by cases h
  | .dict _ :: _, _, h => by cases h
theorem strsD_map (xs : List Str) : strsD (xs.map PyData.str) = some xs := by
  induction xs with
  | nil => rfl
  | cons x xs ih => show (match strsD (xs.map PyData.str) with | some ys => some (x :: ys) | none => none) = _; rw [ih]
def keysStr : List Key → Option (List Str)
  | [] => some []
  | .inr x :: r => match keysStr r with
    | some xs => some (x :: xs)
    | none => none
  | _ :: _ => none
theorem keysStr_eq : ∀ {ks : List Key} {xs : List Str}, keysStr ks = some xs → ks = xs.map Sum.inr
  | [], xs, h => by cases h; rfl
  | .inr x :: r, xs, h => by
    unfold keysStr at h
    split at h
    · next ys e => cases h; rw [keysStr_eq e]; rfl
    · cases h
  | .inl _ :: _, _, h => by cases h
def dSorted : DC := fun xs O R => match xs with
  | [x] => (match asDk x O with
    | some kvs => (match keysStr (kvs.map (·.1)) with
      | some ks => ks.length < 64 ∧ ks.all PyData.strOk = true ∧ R (.d (.list (srtD (ks.map PyData.str)))) O
      | none => False)
    | none => (match asS x O with
      | some ws => (match datas ws with
        | some ds => alikeB ds = true ∧ sortableB ds = true ∧ ds.all (shp 40) = true ∧ R (.d (.list (srtD ds))) O
        | none => False)
      | none => False))
  | _ => False
end Dl
namespace Dl
open PySem PySem.Spec PyProof.Rows L2
variable [TabsC]
/-! #### texts in order -/
def leS (a b : Str) : Bool := decide (a.cps.toList ≤ b.cps.toList)
theorem dataLe_strs (a b : Str) : PySem.W.dataLe false (fun d => d) (.str a) (.str b) = leS a b := congrFun (congrFun (PySem.W.dataLe_str (β := Str) fun x => x) a) b
theorem leS_trans (a b c : Str) (h1 : leS a b = true) (h2 : leS b c = true) : leS a c = true := decide_eq_true (List.le_trans (of_decide_eq_true h1) (of_decide_eq_true h2))
theorem leS_total (a b : Str) : (leS a b || leS b a) = true := by
  rcases List.le_total a.cps.toList b.cps.toList with h | h
  · rw [show leS a b = true from decide_eq_true h]; rfl
  · rw [show leS b a = true from decide_eq_true h, Bool.or_true]
theorem leS_anti (a b : Str) (h1 : leS a b = true) (h2 : leS b a = true) : a = b := PySem.W.str_of_cps (List.le_antisymm (of_decide_eq_true h1) (of_decide_eq_true h2))
def srtS (xs : List Str) : List Str := xs.mergeSort leS
theorem srtD_strs (xs : List Str) : srtD (xs.map PyData.str) = (srtS xs).map PyData.str := by
  unfold srtD srtS
  exact (List.map_mergeSort fun a _ b _ => (dataLe_strs a b).symm).symm
theorem srtS_perm (xs : List Str) : (srtS xs).Perm xs := List.mergeSort_perm _ _
theorem srtS_pw (xs : List Str) : (srtS xs).Pairwise (fun a b => leS a b = true) := List.pairwise_mergeSort leS_trans leS_total xs
theorem srtS_of {xs ys : List Str} (hp : ys.Perm xs) (hs : ys.Pairwise fun a b => leS a b = true) : ys = srtS xs :=
  (List.Perm.eq_of_pairwise (le := fun a b => leS a b = true) (fun a b _ _ h1 h2 => leS_anti a b h1 h2) hs (srtS_pw xs) (hp.trans (srtS_perm xs).symm))
theorem rising_pw : ∀ (p : Str) (l : List Str), risingS p l = true → (p :: l).Pairwise (fun a b => leS a b = true)
  | p, [], _ => List.pairwise_singleton _ _
  | p, x :: r, h => by
    have h' : (!ltCps x.cps.toList p.cps.toList && risingS x r) = true := h
    rw [Bool.and_eq_true, ltCps_eq, Bool.not_eq_true', decide_eq_false_iff_not] at h'
    have px : leS p x = true := decide_eq_true (List.not_lt.mp h'.1)
    have ih := rising_pw x r h'.2
    refine List.pairwise_cons.mpr ⟨fun y hy => ?_, ih⟩
    rcases List.mem_cons.mp hy with rfl | hy
    · exact px
    · exact leS_trans _ _ _ px ((List.pairwise_cons.mp ih).1 y hy)
theorem sortedS_pw {l : List Str} (h : sortedS l = true) : l.Pairwise (fun a b => leS a b = true) := by
  cases l with
  | nil => exact List.Pairwise.nil
  | cons x r => exact rising_pw x r h
/-! ints -/
section
variable {K : Fg} {mg : Str → Option Value}
theorem rpL_mem {G : Hp} : ∀ {ds : List PyData} {vs : List V}, RpL K G vs ds → ∀ b ∈ vs.zip ds, Rp K G b.1 b.2
  | [], _, h, b, hb => by cases h; cases hb
  | d :: ds, _, h, b, hb => by
    cases h with
    | cons h1 h2 =>
      rcases List.mem_cons.mp hb with rfl | hb
      · exact h1
      · exact rpL_mem h2 b hb
theorem rpL_of_pairs {G : Hp} : ∀ {bs : List (V × PyData)}, (∀ b ∈ bs, Rp K G b.1 b.2) → RpL K G (bs.map Prod.fst) (bs.map Prod.snd)
  | [], _ => .nil
  | b :: bs, h => .cons (h b List.mem_cons_self) (rpL_of_pairs fun c hc => h c (List.mem_cons_of_mem _ hc))
theorem rpL_srt {G : Hp} {ds : List PyData} {vs : List V} (h : RpL K G vs ds) : RpL K G (((vs.zip ds).mergeSort (PySem.W.dataLe false Prod.snd)).map Prod.fst) (srtD ds) := by
  rw [← srt_out h.length]
  exact rpL_of_pairs fun b hb => rpL_mem h b ((List.mergeSort_perm _ _).mem_iff.mp hb)
/-- sorted, what is sorted a dict of texts, a list, a tuple -/
abbrev rSorted3 (K : Fg) : List V → Hp → VK → Prop := fun xs H Q => (∃ (a : Addr) (kvs : List (Key × V)) (ks : List Str), xs = [.ref a] ∧ Rd H a (.dK kvs) ∧ kvs.map (·.1) = ks.map Sum.inr ∧ ks.length < 64 ∧
    ∀ ys p, ys.Perm ks → sortedS ys = true → H p = none → Q (.ref p) (upd H p (.lst (ys.map V.str)))) ∨ rSortD K xs H Q
theorem RK.ks {G : Hp} {α : Al} {κ : Type} : ∀ {es : List (κ × V)} {kvs : List (κ × W)}, RK K G α es kvs → es.map (·.1) = kvs.map (·.1)
  | _, _, .nil => rfl
  | _, _, .cons h t => by rw [List.map_cons, List.map_cons, RK.ks t, h.1]
theorem rpL_strs {G : Hp} : ∀ {xs : List Str}, xs.all PyData.strOk = true → RpL K G (xs.map V.str) (xs.map PyData.str)
  | [], _ => .nil
  | x :: xs, h => by
    rw [List.all_cons, Bool.and_eq_true] at h
    exact .cons (.str x h.1) (rpL_strs h.2)
theorem s_sorted : CallS K mg dSorted (rSorted3 K) := by
  intro G α O H xs vs R Q rel rl h p
  unfold dSorted at h
  split at h
  · next x =>
    obtain ⟨v, rfl, rv⟩ := rv1 rl
    split at h
    · next kvs e =>
      split at h
      · next ks ek =>
        obtain ⟨a, es, rfl, hr, rk⟩ := asDk_ok rel rv e
        refine .inl ⟨a, es, ks, rfl, hr, by rw [rk.ks]; exact keysStr_eq ek, h.1, fun ys l hp hs hl => ?_⟩
        have ge := rel.ex.free hl
        have e2 := srtS_of hp (sortedS_pw hs)
        refine p.lay h.2.2 rel hl (.lst upd_same ?_)
        rw [srtD_strs, ← e2]
        refine (rpL_strs ?_).mono (Ex.new ge)
        rw [List.all_eq_true]
        exact fun y hy => List.all_eq_true.mp h.2.1 y (hp.mem_iff.mp hy)
      · exact h.elim
    · split at h
      · next ws ew =>
        split at h
        · next ds ed =>
          obtain ⟨al, so, sh, h⟩ := h
          obtain ⟨a, us, rfl, hs, ra⟩ := asS_ok rel rv ew
          rw [datas_eq ed] at ra
          have rp := ra.toD
          refine .inr ⟨a, us, ds, rfl, hs, rp_dps 40 ds rel.ex rp sh, al, so, fun d hd => Nat.le_trans (shp_depth 40 d (List.all_eq_true.mp sh d hd)) (by decide), fun l hl => ?_⟩
          have ge := rel.ex.free hl
          exact p.lay h rel hl (.lst upd_same ((rpL_srt rp).mono (Ex.new ge)))
        · exact h.elim
      · exact h.elim
  · exact h.elim
end
theorem call_sorted3 {X : Cx} {Wx : WX} {k : Nat} (g : Good X Wx k) : CallR X (.builtin "sorted") (rSorted3 X.K) := or_call (call_sortedD g.calm) (cr_sortD (hu100 g.rm))
/-! #### sep.join(texts) -/
def dJoin (wo wa : DEx) : DEx := fun Γ O R xe => wo Γ O (fun o O1 => match o with
  | .d (.str z) => wa Γ O1 (fun x O2 => match asS x O2 with
    | some ws => (match datas ws with
      | some ds => (match strsD ds with
        | some ys => (ys.map (·.length)).sum + ys.length * z.length ≤ 1000000 ∧ R (.d (.str (Txt.join z ys))) O2
        | none => False)
      | none => False)
    | none => False) xe
  | _ => False) xe
theorem strOk_iff (x : Str) : PyData.strOk x = true ↔ ∀ c ∈ x.cps.toList, PyData.strOk ⟨#[c]⟩ = true := by
  unfold PyData.strOk
  rw [Array.all_eq_true_iff_forall_mem]
  constructor
  · intro h c hc
    have := h c (by simpa using hc)
    simpa using this
  · intro h c hc
    have := h c (by simpa using hc)
    simpa using this
theorem glue_list (z : Str) : ∀ (ps : List Str) (acc : Array Nat), (ps.foldl (fun acc p => acc ++ z.cps ++ p.cps) acc).toList = acc.toList ++ (ps.map fun p => z.cps.toList ++ p.cps.toList).flatten
  | [], acc => by simp
  | p :: ps, acc => by
    rw [List.foldl_cons, glue_list z ps]
    simp
/-- the codes of a join -/
theorem join_list (z : Str) (ys : List Str) : (Txt.join z ys).cps.toList = (ys.headD Str.empty).cps.toList ++ ((ys.drop 1).map fun p => z.cps.toList ++ p.cps.toList).flatten := glue_list z (ys.drop 1) (ys.headD Str.empty).cps
theorem join_cps (z : Str) (ys : List Str) (c : Nat) (hc : c ∈ (Txt.join z ys).cps.toList) : c ∈ z.cps.toList ∨ ∃ y ∈ ys, c ∈ y.cps.toList := by
  rw [join_list] at hc
  rcases List.mem_append.mp hc with hc | hc
  · cases ys with
    | nil => exact absurd hc (by show ¬ c ∈ (Str.empty).cps.toList; simp [Str.empty])
    | cons y ys => exact .inr ⟨y, List.mem_cons_self, hc⟩
  · obtain ⟨l, hl, hc⟩ := List.mem_flatten.mp hc
    obtain ⟨y, hy, rfl⟩ := List.mem_map.mp hl
    rcases List.mem_append.mp hc with hc | hc
    · exact .inl hc
    · exact .inr ⟨y, List.mem_of_mem_drop hy, hc⟩
theorem strOk_join {z : Str} {ys : List Str} (hz : PyData.strOk z = true) (hy : ys.all PyData.strOk = true) : PyData.strOk (Txt.join z ys) = true := by
  rw [strOk_iff]
  intro c hc
  rcases join_cps z ys c hc with h | ⟨y, hm, h⟩
  · exact (strOk_iff z).mp hz c h
  · exact (strOk_iff y).mp (List.all_eq_true.mp hy y hm) c h
section
variable {X : Cx} {Wx : WX} {k : Nat} {a b c e o : Expr} {wa wb wc we wo : DEx} {pos p2 apos cpos : Pos} {es : List Expr} {ws : DA}
theorem rpL_strs_inv {K : Fg} {G : Hp} : ∀ {ys : List Str} {vs : List V}, RpL K G vs (ys.map PyData.str) → vs = ys.map V.str ∧ ys.all PyData.strOk = true
  | [], _, h => by cases h; exact ⟨rfl, rfl⟩
  | y :: ys, _, h => by
    cases h with
    | cons h1 h2 =>
      cases h1 with
      | str _ ok =>
        obtain ⟨e, o⟩ := rpL_strs_inv h2
        exact ⟨by rw [e]; rfl, by rw [List.all_cons, ok, o]; rfl⟩
theorem de_join (ho : DE X Wx o wo) (ha : DE X Wx e we) (hs : starEach [e] X.env = [(false, eval e X.env)] := by rfl) (hbase : attributeBase o "join" X.env (eval o X.env) = eval o X.env := by rfl) (hline : (apos.endLine == pos.line) = true := by rfl) :
    DE X Wx (.Call (.Attribute o "join" apos) [e] [] pos) (dJoin wo we) := by
  refine pe_imp (fun σ H Q ⟨G, α, Γ, O, R, xe, sl, rel, h, p, xp⟩ => ?_) (pe_join ho ha hs hbase hline)
  refine ⟨G, α, Γ, O, _, xe, sl, rel, h, fun x O1 h1 v G1 α1 H1 e1 p1 rel1 r1 => ?_, xp⟩
  dsimp only at h1
  split at h1
  · next z =>
    cases r1 with
    | str _ oz =>
      refine ⟨⟨z, rfl⟩, G1, α1, Γ, O1, _, xe, sl.mono e1 p1, rel1, h1, fun y O2 h2 u G2 α2 H2 e2 p2 rel2 r2 => ?_, xp.mono e1 p1⟩
      dsimp only at h2
      split at h2
      · next ws ew =>
        split at h2
        · next ds ed =>
          split at h2
          · next ys ey =>
            obtain ⟨a, us, rfl, hs, ra⟩ := asS_ok rel2 r2 ew
            rw [datas_eq ed, strsD_eq ey] at ra
            obtain ⟨eu, ok⟩ := rpL_strs_inv ra.toD
            subst eu
            exact ⟨z, a, ys, rfl, rfl, hs, Nat.le_trans h2.1 (by decide), p _ _ h2.2 _ _ _ _ (e1.trans e2) (p1.trans p2) rel2 (.str _ (strOk_join oz ok))⟩
          · exact h2.elim
        · exact h2.elim
      · exact h2.elim
  · exact h1.elim
/-! #### a op b op' c -/
def dChain (f f' : D2) (wa wb wc : DEx) : DEx := fun Γ O R xe => wa Γ O (fun x O1 => wb Γ O1 (fun y O2 => f x y O2 fun z O3 => match z with
  | .d (.bool t) => if t = true then wc Γ O3 (fun w O4 => f' y w O4 R) xe else R (.d (.bool false)) O3
  | _ => False) xe) xe
theorem de_chain {op op' : CmpOp} {f f' : D2} {r r' : R2} (ho : OpR X (compareOp op) r) (hs : OpS X.K X.mg f r) (ho' : OpR X (compareOp op') r') (hs' : OpS X.K X.mg f' r') (ha : DE X Wx a wa) (hb : DE X Wx b wb) (hc : DE X Wx c wc)
    (hm : lastMarks [op, op'] [b, c] = false := by with_unfolding_all rfl) : DE X Wx (.Compare a [op, op'] [b, c] pos) (dChain f f' wa wb wc) := by
  refine pe_imp (fun σ H Q ⟨G, α, Γ, O, R, xe, sl, rel, h, p, xp⟩ => ?_) (pe_chain ho ho' ha hb hc hm)
  refine ⟨G, α, Γ, O, _, xe, sl, rel, h, fun x O1 h1 u G1 α1 H1 e1 p1 rel1 r1 => ?_, xp⟩
  refine ⟨G1, α1, Γ, O1, _, xe, sl.mono e1 p1, rel1, h1, fun y O2 h2 v G2 α2 H2 e2 p2 rel2 r2 => ?_, xp.mono e1 p1⟩
  refine hs G2 α2 O2 H2 x y u v _ _ rel2 (r1.mono e2 p2) r2 h2 fun z O3 h3 q G3 α3 H3 e3 p3 rel3 r3 => ?_
  have e13 := e1.trans (e2.trans e3)
  have p13 := p1.trans (p2.trans p3)
  split at h3
  · next t =>
    cases r3
    refine ⟨t, rfl, ?_⟩
    split at h3
    · next ct =>
      rw [if_pos ct]
      refine ⟨G3, α3, Γ, O3, _, xe, sl.mono e13 p13, rel3, h3, fun w O4 h4 q' G4 α4 H4 e4 p4 rel4 r4 => ?_, xp.mono e13 p13⟩
      exact hs' G4 α4 O4 H4 y w v q' R Q rel4 (r2.mono (e3.trans e4) (p3.trans p4)) r4 h4 (p.mono (e13.trans e4) (p13.trans p4))
    · next ct =>
      rw [if_neg ct]
      exact p _ _ h3 _ _ _ _ e13 p13 rel3 (.bl _)
  · exact h3.elim
/-! #### methods of tuples -/
def dTM (f : DM) (wo : DEx) (ws : DA) : DEx := fun Γ O R xe => wo Γ O (fun o O1 => match o with
  | .d (.tuple ds) => ws Γ O1 (fun xs O2 => f (.d (.tuple ds)) xs O2 R) xe
  | _ => False) xe
/-! #### < and the like, of any alike data -/
def rLtD (K : Fg) (g : PyData → PyData → Bool) : R2 := fun x y H Q => ∃ d e, Dp K H x d ∧ Dp K H y e ∧ PySem.W.alike d e = true ∧ d ≠ .none ∧ d.depth ≤ 64 ∧ Q (.bl (g d e)) H
theorem op_ltD (hu : X.A.units + 100 < cLine) : OpR X (compareOp .Lt) (rLtD X.K fun d e => PySem.W.dataLt d e) := by
  intro pins s σ H x y v u Q I rx ry ⟨d, e, hd, he, al, hn, hz, q⟩
  obtain ⟨as, r1⟩ := Dp.reads I d x v hd rx
  obtain ⟨bs, r2⟩ := Dp.reads I e y u he ry
  exact PySem.W.lt_data r1 r2 al hn (by have := Nat.min_le_left d.depth e.depth; omega) ⟨.bl (PySem.W.dataLt d e), H, I, rfl, q⟩
theorem op_gtD (hu : X.A.units + 100 < cLine) : OpR X (compareOp .Gt) (rLtD X.K fun d e => PySem.W.dataLt e d) := by
  intro pins s σ H x y v u Q I rx ry ⟨d, e, hd, he, al, hn, hz, q⟩
  obtain ⟨as, r1⟩ := Dp.reads I d x v hd rx
  obtain ⟨bs, r2⟩ := Dp.reads I e y u he ry
  exact PySem.W.gt_data r1 r2 al hn (by have := Nat.min_le_left d.depth e.depth; omega) ⟨.bl (PySem.W.dataLt e d), H, I, rfl, q⟩
def dLtD (g : PyData → PyData → Bool) : D2 := fun x y O R => match asD x O, asD y O with
  | some d, some e => shp 40 d = true ∧ shp 40 e = true ∧ PySem.W.alike d e = true ∧ isNone (.d d) = false ∧ R (.d (.bool (g d e))) O
  | _, _ => False
theorem s_ltD {K : Fg} {mg : Str → Option Value} {g : PyData → PyData → Bool} : OpS K mg (dLtD g) (rLtD K g) := by
  intro G α O H x y u v R Q rel r1 r2 h p
  unfold dLtD at h
  split at h
  · next d e e1 e2 =>
    obtain ⟨d1, _⟩ := asD_ok rel r1 e1 h.1
    obtain ⟨d2, _⟩ := asD_ok rel r2 e2 h.2.1
    refine ⟨d, e, d1, d2, h.2.2.1, fun z => ?_, Nat.le_trans (shp_depth 40 d h.1) (by decide), p.here h.2.2.2.2 rel (.bl _)⟩
    rw [z] at h
    exact absurd h.2.2.2.1 (by simp [isNone])
  · exact h.elim
end
end Dl
namespace Dl
open PySem PySem.Spec PyProof.Rows L2
variable [TabsC]
/-! #### enumerate(tuple), at the machine -/
/-! #### enumerate, over data -/
def enumW (n : Nat) : List PyData → List W
  | [] => []
  | d :: r => .p [.int (n : Nat), d] :: enumW (n + 1) r
/-- what is walked never changes -/
def asFz : W → Option (List PyData)
  | .d (.list ds) => some ds
  | .d (.tuple ds) => some ds
  | _ => none
def dEnum (ws : DA) : DI := fun Γ O S xe => ws Γ O (fun xs O1 => match xs with
  | [x] => (match asFz x with
    | some ds => S (enumW 0 ds) (fun _ => True) O1
    | none => False)
  | _ => False) xe
section
variable {K : Fg} {mg : Str → Option Value}
theorem rp_pair {G : Hp} {a : Addr} {v u : V} {d e : PyData} (h : G a = some (.tup [v, u])) (r1 : Rp K G v d) (r2 : Rp K G u e) : ∃ a' vs, V.ref a = .ref a' ∧ SqT K G a' vs ∧ RpL K G vs [d, e] :=
  ⟨a, _, rfl, SqT.of h, .cons r1 (.cons r2 .nil)⟩
end
section
variable {X : Cx} {Wx : WX} {k : Nat} {a b c e o : Expr} {wa wb wc we wo : DEx} {pos p2 : Pos} {ws : DA}
/-! #### zip of two, alike lists or tuples of data -/
def zipW : List PyData → List PyData → List W
  | d :: r, e :: t => .p [d, e] :: zipW r t
  | _, _ => []
theorem zipW_len : ∀ ds es : List PyData, (zipW ds es).length = min ds.length es.length
  | [], es => by simp [zipW]
  | d :: r, [] => by simp [zipW]
  | d :: r, e :: t => by
    show (zipW r t).length + 1 = min (r.length + 1) (t.length + 1)
    rw [zipW_len]
    omega
theorem zipW_get : ∀ (ds es : List PyData) (i : Nat) (d e : PyData), ds[i]? = some d → es[i]? = some e → (zipW ds es)[i]? = some (.p [d, e])
  | [], _, i, d, e, h, _ => by simp at h
  | _ :: _, [], i, d, e, _, h => by simp at h
  | a :: r, b :: t, 0, d, e, h1, h2 => by
    simp only [List.getElem?_cons_zero, Option.some.injEq] at h1 h2
    subst h1 h2
    rfl
  | a :: r, b :: t, i + 1, d, e, h1, h2 => zipW_get r t i d e (by simpa using h1) (by simpa using h2)
def dZip (ws : DA) : DI := fun Γ O S xe => ws Γ O (fun xs O1 => match xs with
  | [.d (.list ds), .d (.list es)] => S (zipW ds es) (fun _ => True) O1
  | [.d (.tuple ds), .d (.tuple es)] => S (zipW ds es) (fun _ => True) O1
  | _ => False) xe
end
end Dl
namespace Dl
open PySem PySem.Spec PyProof.Rows L2
variable [TabsC]
/-! #### the base's __init__, read off an own class that has none -/
/-! #### what __init__ leaves of a new exception -/
/-! #### an exception with an __init__ of its own, made where nothing is handled: its context is None -/
/-! #### what is known of an exception's class -/
/-- without an __init__ of its own -/
structure XC0 (K : Fg) (mg : Str → Option Value) (nm : Str) : Prop where
  ex : ∃ (C : Addr), mg nm = some (.ref C) ∧ PySem.W.excIn K C [.type "ValueError", .type "Exception", .type "BaseException", .type "object"] "ValueError.__new__" = true ∧
    PySem.W.keepIn K (.ref C) = true ∧ PySem.W.subIn K (.ref C) (.type "BaseException") = some true ∧ PySem.W.typeIn K (.ref C) = some (.type "type")
section
variable {X : Cx} {Wx : WX} {k : Nat} {a b c e o : Expr} {wa wb wc we wo : DEx} {pos p2 p : Pos} {ws : DA} {es : List Expr}
/-- raise C('..') -/
def dRaise0 (nm : Str) : DSt := fun _ xe Γ O => xe ⟨nm, []⟩ Γ O
/-- raise C(e, ..), fields of these names -/
def dRaiseF (nm : Str) (fs : List Str) (ws : DA) : DSt := fun _ xe Γ O => ws Γ O (fun vs O1 => match datas vs with
  | some ds => ds.length = fs.length ∧ xe ⟨nm, (fs.zip ds).reverse⟩ Γ O1
  | none => False) xe
theorem ds_raise0 {nm m : Str} {j : Nat} {pos2 : Pos} (g : Good X Wx k) (T : XC0 X.K X.mg nm) (hg : Gl X nm := by rfl) (hdb : (nm == ("__debug__" : Str)) = false := by decide) :
    DS X Wx (.Raise (some (.Call (.Name nm p) [.Constant (.str m) j p2] [] pos)) none pos2) (dRaise0 nm) := by
  obtain ⟨C, hm, hx, hk, hs, hty⟩ := T.ex
  refine ps_imp (fun D σ H ⟨G, α, Γ, O, DD, xe, sl, rel, h, p, xp⟩ => ?_) (L2N.ps_raise g.calm g.tk (L2N.pmk_own PySem.F.excBase_ValueError hx hm hk (raises_own hs hty) hg hdb))
  exact xp _ _ _ h _ _ _ _ _ _ (Ex.refl _) (Pre.refl _) rel sl ⟨C, hm, rfl, fun _ => rfl, fun z => absurd rfl z⟩
/-! #### try .. except C: suite; .. as n -/
/-- subs: of each class that may come whether it is C or under it -/
def dTry (subs : List (Str × Bool)) (body suite : DSt) : DSt := fun D xe Γ O => body D (fun ex Γ' O' => match subs.lookup ex.cls with
  | some true => suite D X0 Γ' O'
  | some false => xe ex Γ' O'
  | none => False) Γ O
def dTryAs (subs : List (Str × Bool)) (i : Nat) (body : DSt) (suite : Addr → Option Addr → DSt) : DSt := fun D xe Γ O => body D (fun ex Γ' O' => match subs.lookup ex.cls with
  | some true => ∀ a d, suite a d { D with nx := fun Γ1 O1 => D.nx (Γ1.set i none) O1, bk := fun Γ1 O1 => D.bk (Γ1.set i none) O1, ct := fun Γ1 O1 => D.ct (Γ1.set i none) O1 } X0 (Γ'.set i (some (.o a d ex.fs))) O'
  | some false => xe ex Γ' O'
  | none => False) Γ O
/-- e.f, e the exception that is handled -/
def dXf (a : Addr) (d : Option Addr) (f : Str) (we : DEx) : DEx := fun Γ O R xe => we Γ O (fun x O1 => match x with
  | .o b d' fs => b = a ∧ d' = d ∧ (match fs.lookup f with
    | some y => R (.d y) O1
    | none => False)
  | _ => False) xe
end
end Dl
namespace Dl
open PySem PySem.Spec PyProof.Rows L2
variable [TabsC]
/-! #### a def of the program, as it is called -/
structure Has (P : Program) (w : World) (K : Fg) (mg : Str → Option Value) (base : Heap) (x : Str) (ps : List Str) (j : Nat) (df : DFn) : Prop where
  ex : ∃ f fd, FnOk P w K mg base (L2N.CX P w) j f fd ps (liftF K mg df) ∧ mg x = some (.ref f) ∧ PySem.W.keepIn K (.ref f) = true ∧ Binds K fd ps []
/-- no name of the module's -/
structure NB (mg : Str → Option Value) : Prop where
  len : mg "len" = none
  abs : mg "abs" = none
  max : mg "max" = none
  min : mg "min" = none
  tuple : mg "tuple" = none
  list : mg "list" = none
  all : mg "all" = none
  any : mg "any" = none
  sorted : mg "sorted" = none
  set : mg "set" = none
  isinstance : mg "isinstance" = none
  range : mg "range" = none
  enumerate : mg "enumerate" = none
  zip : mg "zip" = none
  int : mg "int" = none
  str : mg "str" = none
  bool : mg "bool" = none
  dict : mg "dict" = none
  repr : mg "repr" = none
  sum : mg "sum" = none
  type : mg "type" = none
  reversed : mg "reversed" = none
/-- a call of a def that raises nothing -/
def dCall0 (f : DFn) (ws : DA) : DEx := fun Γ O R xe => ws Γ O (fun vs O1 => f vs O1 R fun _ _ => False) xe
section
variable {X : Cx} {Wx : WX} {k : Nat} {a b c e o : Expr} {wa wb wc we wo : DEx} {pos p2 p : Pos} {ws : DA} {es : List Expr} {ps : List Str} {df : DFn} {x : Str}
theorem no_exnN {E : XK} (h : ∀ c d H, ¬ E c d H) : Passes (L2N.CX X.prog X.w) X E := fun pins σ H s e s' I q => by
  obtain ⟨a, B, H', cls, d, _, _, _, _, _, _, _, q⟩ := q
  exact absurd q (h _ _ _)
theorem de_callH {j : Nat} (g : Good X Wx k) (T : Has X.prog X.w X.K X.mg X.base x ps j df) (hj : j ≤ k) (ha : DAs X Wx (e :: es) ws)
    (hg : Gl X x := by rfl) (hdb : (x == ("__debug__" : Str)) = false := by decide) (he : starEach (e :: es) X.env = (false, eval e X.env) :: starEach es X.env := by rfl) (hpl : (backTo pos (starEach es X.env)).any (·.1) = false := by rfl) :
    DE X Wx (.Call (.Name x p) (e :: es) [] pos) (dCall df ws) := by
  obtain ⟨f, fd, F, hm, hk, hb⟩ := T.ex
  exact de_call g F hj hm hk hb ha hg hdb he hpl
theorem de_call0 {j : Nat} (g : Good X Wx k) (T : Has X.prog X.w X.K X.mg X.base x ps j df) (hj : j ≤ k) (ha : DAs X Wx (e :: es) ws)
    (hg : Gl X x := by rfl) (hdb : (x == ("__debug__" : Str)) = false := by decide) (he : starEach (e :: es) X.env = (false, eval e X.env) :: starEach es X.env := by rfl) (hpl : (backTo pos (starEach es X.env)).any (·.1) = false := by rfl) :
    DE X Wx (.Call (.Name x p) (e :: es) [] pos) (dCall0 df ws) := by
  obtain ⟨f, fd, F, hm, hk, hb⟩ := T.ex
  refine pe_imp (fun σ H Q ⟨G, α, Γ, O, R, xe, sl, rel, h, p, xp⟩ => ?_) (pe_call (E := fun _ _ _ => False) F (g.rm.mono hj) hg hm hk hb .nil (no_exnN fun _ _ _ z => z) ha hdb he hpl)
  refine ⟨G, α, Γ, O, _, xe, sl, rel, h, fun vs O1 h1 us G1 α1 H1 e1 p1 rel1 r1 => ?_, xp⟩
  show liftF X.K X.mg df (us ++ []) H1 Q _
  rw [List.append_nil]
  exact ⟨G1, α1, vs, O1, R, _, r1, rel1, h1, p.mono e1 p1, fun ex O2 h2 cls d G2 α2 H2 e2 p2 rel2 xo => h2.elim⟩
/-! #### -x -/
def dNeg (wa : DEx) : DEx := fun Γ O R xe => wa Γ O (fun r O1 => match r with
  | .d (.int i) => R (.d (.int (-i))) O1
  | _ => False) xe
theorem de_neg (ha : DE X Wx a wa) : DE X Wx (.UnaryOp .USub a pos) (dNeg wa) := by
  refine pe_imp (fun σ H Q ⟨G, α, Γ, O, R, xe, sl, rel, h, p, xp⟩ => ?_) (pe_un un_neg ha)
  refine ⟨G, α, Γ, O, _, xe, sl, rel, h, fun x O1 h1 u G1 α1 H1 e1 p1 rel1 r1 => ?_, xp⟩
  dsimp only at h1
  split at h1
  · next i =>
    cases r1
    exact ⟨i, rfl, p _ _ h1 _ _ _ _ e1 p1 rel1 (.int _)⟩
  · exact h1.elim
/-! #### operators by the place in the text -/
theorem op_eqG (g : Good X Wx k) : OpR X (compareOp .Eq) (rEqD X.K) := op_eqD (by have := g.rm.un; omega)
theorem op_neG (g : Good X Wx k) : OpR X (compareOp .NotEq) (rNeD X.K) := op_neD (by have := g.rm.un; omega)
/-- <, > of ints or of data -/
def dLt2 : D2 := fun x y O R => match x, y with
  | .d (.int i), .d (.int j) => R (.d (.bool (decide (i < j)))) O
  | x, y => dLtD (fun d e => PySem.W.dataLt d e) x y O R
def dGt2 : D2 := fun x y O R => match x, y with
  | .d (.int i), .d (.int j) => R (.d (.bool (decide (j < i)))) O
  | x, y => dLtD (fun d e => PySem.W.dataLt e d) x y O R
theorem s_lt2 {K : Fg} {mg : Str → Option Value} : OpS K mg dLt2 (fun x y H Q => rI0 (fun i j => .bl (decide (i < j))) x y H Q ∨ rLtD K (fun d e => PySem.W.dataLt d e) x y H Q) := by
  intro G α O H x y u v R Q rel r1 r2 h p
  unfold dLt2 at h
  split at h
  · cases r1; cases r2
    exact .inl ⟨_, _, rfl, rfl, p.here h rel (.bl _)⟩
  · exact .inr (s_ltD _ _ _ _ _ _ _ _ _ _ rel r1 r2 h p)
theorem s_gt2 {K : Fg} {mg : Str → Option Value} : OpS K mg dGt2 (fun x y H Q => rI0 (fun i j => .bl (decide (j < i))) x y H Q ∨ rLtD K (fun d e => PySem.W.dataLt e d) x y H Q) := by
  intro G α O H x y u v R Q rel r1 r2 h p
  unfold dGt2 at h
  split at h
  · cases r1; cases r2
    exact .inl ⟨_, _, rfl, rfl, p.here h rel (.bl _)⟩
  · exact .inr (s_ltD _ _ _ _ _ _ _ _ _ _ rel r1 r2 h p)
theorem op_lt2 (g : Good X Wx k) : OpR X (compareOp .Lt) (fun x y H Q => rI0 (fun i j => .bl (decide (i < j))) x y H Q ∨ rLtD X.K (fun d e => PySem.W.dataLt d e) x y H Q) := or_op op_lt (op_ltD (hu100 g.rm))
theorem op_gt2 (g : Good X Wx k) : OpR X (compareOp .Gt) (fun x y H Q => rI0 (fun i j => .bl (decide (j < i))) x y H Q ∨ rLtD X.K (fun d e => PySem.W.dataLt e d) x y H Q) := or_op op_gt (op_gtD (hu100 g.rm))
/-! #### len(set(texts)) -/
def dLenSet (wa : DEx) : DEx := fun Γ O R xe => wa Γ O (fun x O1 => match asL x O1 with
  | some ws => (match datas ws with
    | some ds => (match strsD ds with
      | some ys => ys.length ≤ 1000 ∧ R (.d (.int ((met ys).length : Nat))) O1
      | none => False)
    | none => False)
  | none => False) xe
/-! #### is of truth values and None, whatever stands there -/
def dIs2 (neg : Bool) : D2 := fun x y O R => match y with
  | .d .none => R (.d (.bool (if neg then !isNone x else isNone x))) O
  | .d (.bool b) => (match x with
    | .d (.bool a) => R (.d (.bool (if neg then !decide (a = b) else decide (a = b)))) O
    | _ => False)
  | _ => False
theorem op_is2 : OpR X (compareOp .Is) (fun x y H Q => (y = .non ∧ Q (.bl (decide (x = .non))) H) ∨ rIsB x y H Q) := or_op op_isN op_isBl
theorem s_is2 {K : Fg} {mg : Str → Option Value} : OpS K mg (dIs2 false) (fun x y H Q => (y = .non ∧ Q (.bl (decide (x = .non))) H) ∨ rIsB x y H Q) := by
  intro G α O H x y u v R Q rel r1 r2 h p
  unfold dIs2 at h
  split at h
  · cases r2
    refine .inl ⟨rfl, ?_⟩
    rw [isNone_ok r1]
    exact p.here h rel (.bl _)
  · split at h
    · cases r1; cases r2
      exact .inr ⟨_, _, rfl, rfl, p.here h rel (.bl _)⟩
    · exact h.elim
  · exact h.elim
/-! #### an except clause, its class by name -/
theorem dt_chain {op op' : CmpOp} {f f' : D2} {r r' : R2} (ho : OpR X (compareOp op) r) (hs : OpS X.K X.mg f r) (ho' : OpR X (compareOp op') r') (hs' : OpS X.K X.mg f' r') (ha : DE X Wx a wa) (hb : DE X Wx b wb) (hc : DE X Wx c wc)
    (hm : lastMarks [op, op'] [b, c] = false := by with_unfolding_all rfl) : DTt X Wx (.Compare a [op, op'] [b, c] pos) (dB (dChain f f' wa wb wc)) := by
  refine pt_imp (fun σ H Q ⟨G, α, Γ, O, R, xe, sl, rel, h, p, xp⟩ => ?_) (pt_chain ho ho' ha hb hc hm)
  refine ⟨G, α, Γ, O, _, xe, sl, rel, h, fun x O1 h1 u G1 α1 H1 e1 p1 rel1 r1 => ?_, xp⟩
  refine ⟨G1, α1, Γ, O1, _, xe, sl.mono e1 p1, rel1, h1, fun y O2 h2 v G2 α2 H2 e2 p2 rel2 r2 => ?_, xp.mono e1 p1⟩
  refine hs G2 α2 O2 H2 x y u v _ _ rel2 (r1.mono e2 p2) r2 h2 fun z O3 h3 q G3 α3 H3 e3 p3 rel3 r3 => ?_
  have e13 := e1.trans (e2.trans e3)
  have p13 := p1.trans (p2.trans p3)
  split at h3
  · next t =>
    cases r3
    refine ⟨t, rfl, ?_⟩
    split at h3
    · next ct =>
      rw [if_pos ct]
      refine ⟨G3, α3, Γ, O3, _, xe, sl.mono e13 p13, rel3, h3, fun w O4 h4 q' G4 α4 H4 e4 p4 rel4 r4 => ?_, xp.mono e13 p13⟩
      refine hs' G4 α4 O4 H4 y w v q' _ _ rel4 (r2.mono (e3.trans e4) (p3.trans p4)) r4 h4 fun z5 O5 h5 v5 G5 α5 H5 e5 p5 rel5 r5 => ?_
      split at h5
      · next tb =>
        cases r5
        exact ⟨tb, rfl, p _ _ h5 _ _ _ (e13.trans (e4.trans e5)) (p13.trans (p4.trans p5)) rel5⟩
      · exact h5.elim
    · next ct =>
      rw [if_neg ct]
      exact ⟨false, rfl, p _ _ h3 _ _ _ e13 p13 rel3⟩
  · exact h3.elim
/-! #### the end -/
theorem all_nil {α : Type} {p : α → Prop} : ∀ x ∈ ([] : List α), p x := fun _ h => nomatch h
theorem all_cons {α : Type} {p : α → Prop} {a : α} {l : List α} (h : p a) (t : ∀ x ∈ l, p x) : ∀ x ∈ a :: l, p x := fun x hx => by
  rcases List.mem_cons.mp hx with rfl | hx
  · exact h
  · exact t x hx
theorem no_cx {P : Program} {w : World} {o : List Env} {H : Hp} {s s' : Shared} {e : Value} (z : LM.CX true P w o H s (fun _ _ _ => False) e s') : False := by
  obtain ⟨_, _, _, _, _, _, _, _, _, _, _, _, _, _, z⟩ := z
  exact z
theorem law_in {K : Fg} {mg : Str → Option Value} {df : DFn} {vs : List V} {H : Hp} {Q : VK} {E : XK} (hT : ∀ p ∈ TabsC.T, H p.1 = some (.tbl #[])) (hlaw : ∀ (ns : List Int), ns.length ≤ 63 → ∀ (R : DK) (xe : Exn → Oh → Prop), (∀ O', R (.d (.bool true)) O') → df [.d (.dict [(.none, .list (ns.map PyData.int))])] [] R xe)
    (h : ∃ (a : Addr) (ns : List Int), vs = [.ref a] ∧ SqL K H a (ns.map V.int) ∧ ns.length ≤ 63 ∧ ∀ H', Q (.bl true) H') : liftF K mg df vs H Q E := by
  obtain ⟨a, ns, rfl, hS, hl, q⟩ := h
  have keep : ∀ {b : Addr} {u : HO}, H b = some u → (∀ ps, u ≠ .tbl ps) → (if b ∈ TabsC.T.map Prod.fst then none else H b) = some u := fun {b u} e n => by
    by_cases z : b ∈ TabsC.T.map Prod.fst
    · obtain ⟨p, hp, rfl⟩ := List.mem_map.mp z
      rw [hT p hp] at e
      cases e
      exact absurd rfl (n _)
    · rw [if_neg z]; exact e
  have hS' : SqL K (fun b => if b ∈ TabsC.T.map Prod.fst then none else H b) a (ns.map V.int) := by
    rcases hS with (e | ⟨ob, e⟩) | z
    · exact .inl (.inl (keep e fun ps z => by cases z))
    · exact .inl (.inr ⟨ob, keep e fun ps z => by cases z⟩)
    · exact .inr z
  refine ⟨fun b => if b ∈ TabsC.T.map Prod.fst then none else H b, ⟨[], []⟩, [.d (.dict [(.none, .list (ns.map PyData.int))])], [], fun r _ => r = .d (.bool true), fun _ _ => False, .cons (.scr ns hS') .nil, ⟨fun b u e => ?_, rfl, List.nodup_nil, fun _ h => (nomatch h), fun k a c h => absurd h (by show ¬ (([] : List Addr)[k]? = some a); simp), fun p h => (nomatch h), fun p hp => ⟨if_pos (List.mem_map.mpr ⟨p, hp, rfl⟩), ⟨fun z => (nomatch z), fun q z => (nomatch z)⟩, #[], hT p hp, trivial, fun pos cv z => ?_⟩⟩, hlaw ns hl _ _ fun _ => rfl, fun r O' e v G' α' H' _ _ _ rv => ?_, fun ex O' z => z.elim⟩
  · by_cases z : b ∈ TabsC.T.map Prod.fst
    · have e : (if b ∈ TabsC.T.map Prod.fst then none else H b) = some u := e
      rw [if_pos z] at e; cases e
    · have e : (if b ∈ TabsC.T.map Prod.fst then none else H b) = some u := e
      rw [if_neg z] at e; exact e
  · cases z
  · subst e
    cases rv
    exact q H'
/-! #### constants of the module -/
theorem de_gint {x : Str} {i : Int} (h : ∃ t, X.mg x = some (.int i t)) (hg : Gl X x := by rfl) (hdb : (x == ("__debug__" : Str)) = false := by decide) : DE X Wx (.Name x pos) (dC (.int i)) := by
  obtain ⟨t, h⟩ := h
  exact de_c (pe_glob (v := .int i) hg h ⟨t, rfl⟩ (hd := hdb)) fun _ => .int _
theorem de_gstr {x z : Str} (h : ∃ t, X.mg x = some (.str z t)) (hz : PyData.strOk z = true) (hg : Gl X x := by rfl) (hdb : (x == ("__debug__" : Str)) = false := by decide) : DE X Wx (.Name x pos) (dC (.str z)) := by
  obtain ⟨t, h⟩ := h
  exact de_c (pe_glob (v := .str z) hg h ⟨t, rfl⟩ (hd := hdb)) fun _ => .str _ hz
/-- a comprehension's names -/
theorem blk_ok {N : List Str} {sc scope : Scope} {own : List (Str × Nat)} (h : blkC N sc scope own = true) : BlkOk N sc scope own := blkOk_by h
end
end Dl
/-! ### list.extend, min of alike things -/
/-! ### dict(zip(xs, ys)) -/
/-! ### a try whose body raises nothing -/
namespace Dl
open PySem PySem.Spec PyProof.Rows L2
variable [TabsC]
/-- what a dict of data is, as data -/
def frzD : List (Key × W) → Option (List (PyData × PyData))
  | [] => some []
  | (k, .d x) :: r => match frzD r with
    | some ds => some ((keyD k, x) :: ds)
    | none => none
  | _ :: _ => none
section
variable {K : Fg} {mg : Str → Option Value} {G : Hp} {α : Al} {O : Oh} {H : Hp}
theorem frzD_ok : ∀ {es : List (Key × V)} {kvs : List (Key × W)} {ds : List (PyData × PyData)}, RK K G α es kvs → frzD kvs = some ds → (kvs.map (·.1)).all keyOk = true → RpK K G es ds
  | _, _, _, .nil, e, _ => by cases e; exact .nil
  | (k, v) :: es, (k', w) :: kvs, ds, .cons h t, e, o => by
    obtain ⟨h1, h2⟩ := h
    have h1 : k = k' := h1
    subst h1
    rw [List.map_cons, List.all_cons, Bool.and_eq_true] at o
    cases w with
    | d x =>
      unfold frzD at e
      split at e
      · next ds' e2 => cases e; exact .cons rfl o.1 h2 (frzD_ok t e2 o.2)
      · cases e
    | _ => cases e
/-- what stands at a cell that is gone stays -/
theorem Rel.gfix {k : Nat} {a : Addr} {u : HO} (R : Rel K mg G α O H) (h1 : α.as[k]? = some a) (h2 : O[k]? = some .gone) (h3 : H a = some u) (h4 : G a = none) (hu : ∀ b, u ≠ .own b) : Rel K mg (upd G a u) α O H := by
  refine ⟨fun b v e => ?_, R.len, R.nd, R.liv, fun j b c' q1 q2 => ?_, fun q hq => ?_, R.tb.mono (fun b u h _ o g => by rw [upd_ne (o.ne h1)]; exact g) (fun _ _ h _ _ => h) (fun _ _ _ _ o => o)⟩
  · by_cases z : b = a
    · subst z
      rw [upd_same] at e
      rw [← e]
      exact h3
    · rw [upd_ne z] at e
      exact R.ex b v e
  · by_cases z : k = j
    · subst z
      rw [h2] at q2
      cases q2
      trivial
    · have ne : b ≠ a := nodup_ne R.nd q1 h1 (Ne.symm z)
      refine (R.at_ j b c' q1 q2).mono (Ex.new h4) (Pre.refl _) (fun z => by rw [upd_ne ne]; exact z) (fun x hx z1 z2 => ⟨?_, z2, hx⟩) fun v z => z
      have nx : x ≠ a := fun e => by
        rw [e, h3] at hx
        cases hx
        exact hu _ rfl
      rw [upd_ne nx]
      exact z1
  · obtain ⟨q1, q2, q3, q4⟩ := R.hd q hq
    have nq : q.1 ≠ a := fun z => q3 (z ▸ List.mem_of_getElem? h1)
    exact ⟨q1, by rw [upd_ne nq]; exact q2, q3, q4⟩
end
def dFrz (we : DEx) : DEx := fun Γ O R xe => we Γ O (fun x O1 => match x with
  | .c j => (match O1[j]? with
    | some (.dic kvs) => (match frzD kvs with
      | some ds => (kvs.map (·.1)).all keyOk = true ∧ R (.d (.dict ds)) (O1.set j .gone)
      | none => False)
    | _ => False)
  | _ => False) xe
theorem de_frz {X : Cx} {Wx : WX} {e : Expr} {we : DEx} (he : DE X Wx e we) : DE X Wx e (dFrz we) := by
  refine pe_imp (fun σ H Q ⟨G, α, Γ, O, R, xe, sl, rel, h, p, xp⟩ => ?_) (pe_frz he)
  refine ⟨G, α, Γ, O, _, xe, sl, rel, h, fun x O1 h1 v G1 α1 H1 e1 p1 rel1 r1 => ?_, xp⟩
  dsimp only at h1
  split at h1
  · next j =>
    split at h1
    · next kvs ej =>
      split at h1
      · next ds ed =>
        obtain ⟨a, ha, rfl⟩ := r1
        obtain ⟨g0, es, hH, rk⟩ := rel1.at_ j a _ ha ej
        refine .inr ⟨a, .dK es, rfl, hH, trivial, fun od => ?_⟩
        have rel2 := rel1.write (o := .frz od (.dK es)) (c := .gone) ha ej hH g0 (fun b z => by cases z) (fun b z => by cases z) trivial
        have hjl : j < O1.length := (List.getElem?_eq_some_iff.mp ej).1
        have rel3 := rel2.gfix (u := .frz od (.dK es)) ha (List.getElem?_set_self hjl) upd_same g0 (fun b z => by cases z)
        refine p _ _ h1.2 _ _ _ _ (e1.trans (Ex.new g0)) p1 rel3 (.dk upd_same (RpK.mono (Ex.new g0) (frzD_ok rk ed h1.1)))
      · exact h1.elim
    · exact h1.elim
  · exact h1.elim
end Dl
/-! ### walks along dicts that never change -/
namespace Dl
open PySem PySem.Spec PyProof.Rows L2
variable [TabsC]
section
variable {K : Fg} {mg : Str → Option Value} {G : Hp} {α : Al}
theorem rp_key {G : Hp} {k : Key} (h : keyOk k = true) : Rp K G (kV k) (keyD k) := by
  cases k with
  | inl i => exact .int i
  | inr x => exact .str x h
theorem RpK.get : ∀ {es : List (Key × V)} {ds : List (PyData × PyData)} {i : Nat} {q d : PyData}, RpK K G es ds → ds[i]? = some (q, d) → ∃ k v, es[i]? = some (k, v) ∧ q = keyD k ∧ keyOk k = true ∧ Rp K G v d
  | _, _, _, _, _, .nil, e => by simp at e
  | _, _, 0, _, _, .cons h0 h1 h2 _, e => by
    simp only [List.getElem?_cons_zero, Option.some.injEq, Prod.mk.injEq] at e
    obtain ⟨rfl, rfl⟩ := e
    exact ⟨_, _, rfl, h0, h1, h2⟩
  | _, _, i + 1, _, _, .cons _ _ _ t, e => by
    obtain ⟨k, v, q1, q2⟩ := RpK.get (i := i) t (by simpa using e)
    exact ⟨k, v, by simpa using q1, q2⟩
theorem RpK.len : ∀ {es : List (Key × V)} {ds : List (PyData × PyData)}, RpK K G es ds → es.length = ds.length
  | _, _, .nil => rfl
  | _, _, .cons _ _ _ t => by rw [List.length_cons, List.length_cons, RpK.len t]
theorem sim_keys {a : Addr} {ob : Obj} {es : List (Key × V)} {ds : List (PyData × PyData)} (hg : G a = some (.frz ob (.dK es))) (rk : RpK K G es ds) : Sim K mg (Itk a ob es) G α (ds.map fun p => W.d p.1) fun _ => True := by
  intro i G1 α1 O H e p rel _
  have h' : H a = some (.frz ob (.dK es)) := rel.ex _ _ (e _ _ hg)
  refine ⟨fun hi => ⟨h', by rw [rk.len]; rw [List.length_map] at hi; exact hi⟩, fun w hw => ?_⟩
  rw [List.getElem?_map] at hw
  cases hd : ds[i]? with
  | none => rw [hd] at hw; cases hw
  | some qd =>
    rw [hd] at hw
    cases hw
    obtain ⟨q, d⟩ := qd
    obtain ⟨k, v, hk, rfl, ok, rv⟩ := rk.get hd
    refine ⟨⟨h', (List.getElem?_eq_some_iff.mp hk).1⟩, fun x H' y => ?_⟩
    obtain ⟨rfl, k', v', hk', rfl⟩ := y
    rw [hk] at hk'
    cases hk'
    exact ⟨G1, Ex.refl _, rel, rp_key ok⟩
end
section
variable {X : Cx} {Wx : WX} {k : Nat} {tg e : Expr} {wa : DEx} {apos cpos tpos : Pos}
def dKeysI (w : DEx) : DI := fun Γ O S xe => w Γ O (fun r O1 => match r with
  | .d (.dict kvs) => (keysD kvs).isSome = true ∧ S (kvs.map fun p => W.d p.1) (fun _ => True) O1
  | _ => False) xe
def dItemsI (w : DEx) : DI := fun Γ O S xe => w Γ O (fun r O1 => match r with
  | .d (.dict kvs) => (keysD kvs).isSome = true ∧ S (kvs.map fun p => W.p [p.1, p.2]) (fun _ => True) O1
  | _ => False) xe
theorem dict_of {K : Fg} {G : Hp} {v : V} {kvs : List (PyData × PyData)} (r : Rp K G v (.dict kvs)) (h : (keysD kvs).isSome = true) : ∃ a ob es, v = .ref a ∧ G a = some (.frz ob (.dK es)) ∧ RpK K G es kvs := by
  cases r with
  | scr ns hs => cases h
  | dk hg hk => exact ⟨_, _, _, rfl, hg, hk⟩
theorem di_keys (hl : DE X Wx e wa) : DIt X Wx tg e (dKeysI wa) := by
  refine pi_imp (fun σ H R ⟨G, α, Γ, O, S, xe, sl, rel, h, xp, q⟩ => ?_) (pi_keys hl)
  refine ⟨G, α, Γ, O, _, xe, sl, rel, h, fun x O1 h1 v G1 α1 H1 e1 p1 rel1 r1 => ?_, xp⟩
  dsimp only at h1
  split at h1
  · next kvs =>
    obtain ⟨a, ob, es, rfl, hg, hk⟩ := dict_of r1 h1.1
    exact ⟨a, ob, rfl, .inl ⟨es, rel1.ex _ _ hg, q _ _ _ h1.2 _ _ _ _ e1 p1 rel1 (sim_keys hg hk)⟩⟩
  · exact h1.elim
end
end Dl
/-! ### more of dicts and lists -/
namespace Dl
open PySem PySem.Spec PyProof.Rows L2
variable [TabsC]
section
variable {X : Cx} {Wx : WX} {k : Nat} {a b c e o i : Expr} {wa wb wc we wo wi : DEx} {pos p2 apos cpos : Pos} {ws : DA}
/-! #### d.get(k) -/
/-! #### l.clear() -/
/-! #### {a: b} -/
/-! #### dict(zip(xs, ys)) -/
def keysW : List W → Option (List Key)
  | [] => some []
  | x :: r => match keyW x, keysW r with
    | some q, some qs => some (q :: qs)
    | _, _ => none
theorem keysW_ok {K : Fg} {G : Hp} {α : Al} : ∀ {vs : List V} {ws : List W} {qs : List Key}, RvL K G α vs ws → keysW ws = some qs → vs = qs.map kV
  | _, _, _, .nil, e => by cases e; rfl
  | _, x :: ws, qs, .cons r t, e => by
    unfold keysW at e
    split at e
    · next q qs' e1 e2 =>
      cases e
      obtain ⟨rfl, _⟩ := keyW_ok r e1
      rw [List.map_cons, keysW_ok t e2]
    · cases e
/-! #### sorted(..), a list that will change -/
/-! #### a, b = e1, e2, by way of a tuple -/
theorem ds_parT (g : Good X Wx k) {ws : DA} {i j : Nat} {x y : Str} {px py pt : Pos} {kt k2 pt2} (hi : X.N[i]? = some x) (hj : X.N[j]? = some y) (hij : i ≠ j)
    (ha : DAs X Wx [a, b] ws)
    (hw : swappedStores [.Tuple [.Name x px, .Name y py] kt pt] (.Tuple [a, b] k2 pt2) X.env = pure none := by rfl)
    (hs : swapsWithSole [.Tuple [.Name x px, .Name y py] kt pt] (.Tuple [a, b] k2 pt2) pos.line X.env = pure false := by rfl)
    (h1 : (assignEach [.Tuple [.Name x px, .Name y py] kt pt] X.env).map (·.2) = [assign (.Tuple [.Name x px, .Name y py] kt pt) X.env] := by rfl)
    (hn : (assignEach [.Name x px, .Name y py] X.env).length = 2 := by rfl) (hst : (assignEach [.Name x px, .Name y py] X.env).findIdx? (·.1) = none := by rfl)
    (hp : PGs X [.Name x px, .Name y py] (gCons (gName i) (gCons (gName j) gNil))) :
    DS X Wx (.Assign [.Tuple [.Name x px, .Name y py] kt pt] (.Tuple [a, b] k2 pt2) pos) (dPar i j ws) := by
  refine ps_imp (fun D σ H ⟨G, α, Γ, O, DD, xe, sl, rel, h, p, xp⟩ => ?_) (ps_asg (pe_tup ha) (pg_tup g.calm hp hn hst) hs hw h1)
  refine ⟨G, α, Γ, O, _, xe, sl, rel, h, fun y O1 h1 vs G1 α1 H1 e1 p1 rel1 r1 => ?_, xp⟩
  dsimp only at h1
  split at h1
  · next v w =>
    obtain ⟨u1, u2, rfl, ra, rb⟩ := rv2 r1
    refine ⟨by show (2 : Nat) ≤ sizeLine; decide, fun q hq => ?_⟩
    have rel2 := rel1.lay (o := .tup [u1, u2]) hq
    have ex2 : Ex G1 (upd G1 q (.tup [u1, u2])) := Ex.new (rel1.ex.free hq)
    refine ⟨q, [u1, u2], rfl, SqT.of upd_same, rfl, u1, [u2], rfl, u2, [], rfl, rfl, ?_⟩
    exact p.nx _ _ h1 _ _ _ _ (e1.trans ex2) p1 rel2 ((((sl.mono e1 p1).mono ex2 (Pre.refl _)).set (ra.mono ex2 (Pre.refl _)) i).set (rb.mono ex2 (Pre.refl _)) j)
  · exact h1.elim
end
end Dl
/-! ### a + b of lists that will change, max of whole numbers -/
/-! ### sorted(set(xs)), xs a list of texts -/
/-! ### sorted(set(xs)): the sorting, the reading -/
namespace Dl
open PySem PySem.Spec PyProof.Rows L2
variable [TabsC]
section
variable {X : Cx} {Wx : WX} {k : Nat} {a : Expr} {wa : DEx}
/-- sorted(set(xs)) -/
def dSortSet (wa : DEx) : DEx := fun Γ O R xe => wa Γ O (fun x O1 => match asL x O1 with
  | some ws => (match datas ws with
    | some ds => (match strsD ds with
      | some ys => ys.length ≤ 1000 ∧ (met ys).length < 64 ∧ R (.d (.list ((srtS (met ys)).map PyData.str))) O1
      | none => False)
    | none => False)
  | none => False) xe
end
end Dl
/-! ### for a in text -/
namespace Dl
open PySem PySem.Spec PyProof.Rows L2
variable [TabsC]
/-- a text's signs, each a text -/
def chS (s : Str) : List Str := s.cps.toList.map fun c => ⟨#[c]⟩
def dStrI (w : DEx) : DI := fun Γ O S xe => w Γ O (fun r O1 => match r with
  | .d (.str s) => S (((chS s).map PyData.str).map W.d) (fun _ => True) O1
  | _ => False) xe
theorem chS_len (s : Str) : (chS s).length = s.cps.size := by unfold chS; rw [List.length_map, Array.length_toList]
theorem strOk_ch {s z : Str} (h : PyData.strOk s = true) (hz : z ∈ chS s) : PyData.strOk z = true := by
  obtain ⟨c, hc, rfl⟩ := List.mem_map.mp hz
  unfold PyData.strOk at h ⊢
  rw [Array.all_eq_true_iff_forall_mem] at h ⊢
  intro x hx
  have : x = c := by simpa using hx
  subst this
  exact h x (by simpa using hc)
theorem sim_str {K : Fg} {mg : Str → Option Value} {G0 : Hp} {α0 : Al} {s : Str} (ok : PyData.strOk s = true) : Sim K mg (Its s) G0 α0 (((chS s).map PyData.str).map W.d) fun _ => True := by
  intro i G α O H e p rel _
  refine ⟨fun hi => by rw [List.length_map, List.length_map, chS_len] at hi; exact hi, fun w hw => ?_⟩
  rw [List.getElem?_map, List.getElem?_map] at hw
  cases hz : (chS s)[i]? with
  | none => rw [hz] at hw; cases hw
  | some z =>
    rw [hz] at hw
    cases hw
    have hm := List.mem_of_getElem? hz
    unfold chS at hz
    rw [List.getElem?_map, Array.getElem?_toList] at hz
    cases hc : s.cps[i]? with
    | none => rw [hc] at hz; cases hz
    | some c =>
      rw [hc] at hz
      cases hz
      refine ⟨(Array.getElem?_eq_some_iff.mp hc).1, fun x H' ⟨eH, c', hc', ex⟩ => ?_⟩
      rw [hc] at hc'
      cases hc'
      subst eH ex
      exact ⟨G, Ex.refl _, rel, .str _ (strOk_ch ok hm)⟩
theorem di_str {X : Cx} {Wx : WX} {tg l : Expr} {wa : DEx} (hl : DE X Wx l wa) : DIt X Wx tg l (dStrI wa) := by
  refine pi_imp (fun σ H R ⟨G, α, Γ, O, S, xe, sl, rel, h, xp, q⟩ => ?_) (pi_str hl)
  refine ⟨G, α, Γ, O, _, xe, sl, rel, h, fun x O1 h1 v G1 α1 H1 e1 p1 rel1 r1 => ?_, xp⟩
  dsimp only at h1
  split at h1
  · next s =>
    cases r1 with
    | str _ ok => exact ⟨s, rfl, q _ _ _ h1 _ _ _ _ e1 p1 rel1 (sim_str ok)⟩
  · exact h1.elim
/-! ### len of a dict -/
end Dl
/-! ### len(set(xs)), xs a tuple of texts -/
namespace Dl
open PySem PySem.Spec PyProof.Rows L2
variable [TabsC]
section
variable {X : Cx} {Wx : WX} {k : Nat} {a : Expr} {wa : DEx}
def dLenSetT (wa : DEx) : DEx := fun Γ O R xe => wa Γ O (fun x O1 => match x with
  | .d (.tuple ds) => (match strsD ds with
    | some ys => ys.length ≤ 1000 ∧ R (.d (.int ((met ys).length : Nat))) O1
    | none => False)
  | _ => False) xe
end
end Dl
/-! ### dicts whose keys are tuples -/
namespace Dl
open PySem PySem.Spec PyProof.Rows L2
variable [TabsC]
section
variable {X : Cx} {Wx : WX} {k : Nat} {es : List Expr} {ws : DA} {e a b o tg : Expr} {we wa wb wo : DEx} {pos : Pos}
/-- (a, b) as a key -/
def dTupK (ws : DA) : DEx := fun Γ O R xe => ws Γ O (fun xs O1 => match keysW xs with
  | some ks => xs.length ≤ 1000 ∧ R (.k ks) O1
  | none => False) xe
theorem keysW_all {K : Fg} {G : Hp} {α : Al} : ∀ {vs : List V} {ws : List W} {qs : List Key}, RvL K G α vs ws → keysW ws = some qs → qs.all keyOk = true
  | _, _, _, .nil, e => by cases e; rfl
  | _, x :: ws, qs, .cons r t, e => by
    unfold keysW at e
    split at e
    · next q qs' e1 e2 =>
      cases e
      obtain ⟨_, h⟩ := keyW_ok r e1
      rw [List.all_cons, h, keysW_all t e2]; rfl
    · cases e
theorem de_tupK {x1} (h : DAs X Wx es ws) : DE X Wx (.Tuple es x1 pos) (dTupK ws) := by
  refine pe_imp (fun σ H Q ⟨G, α, Γ, O, R, xe, sl, rel, h, p, xp⟩ => ?_) (pe_tup h)
  refine ⟨G, α, Γ, O, _, xe, sl, rel, h, fun y O1 h1 vs G1 α1 H1 e1 p1 rel1 r1 => ?_, xp⟩
  dsimp only at h1
  split at h1
  · next ks e =>
    have ev := keysW_ok r1 e
    have ok := keysW_all r1 e
    have hl := r1.len
    subst ev
    exact ⟨by rw [hl]; exact szl (by have := h1.1; omega), fun q hq => p _ _ h1.2 _ (upd G1 q (.tup (ks.map kV))) α1 _ (e1.trans (Ex.new (rel1.ex.free hq))) p1 (rel1.lay hq) ⟨ok, q, rfl, upd_same⟩⟩
  · exact h1.elim
/-- a dict is walked: it stays while the expression is read -/
def dLck (i : Nat) (we : DEx) : DEx := fun Γ O R _ => match Γ[i]? with
  | some (some (.c j)) => (match O[j]? with
    | some (.dct kvs) => ∀ od es, we Γ (O.set j (.ldct od es kvs)) (fun r O' => O'[j]? = some (.ldct od es kvs) ∧ R r (O'.set j (.dct kvs))) X0
    | some (.dic kvs) => ∀ od es, we Γ (O.set j (.ldic od es kvs)) (fun r O' => O'[j]? = some (.ldic od es kvs) ∧ R r (O'.set j (.dic kvs))) X0
    | _ => False)
  | _ => False
theorem de_lck (i : Nat) (he : DE X Wx e we) : DE X Wx e (dLck i we) := by
  refine pe_imp (fun σ H Q ⟨G, α, Γ, O, R, xe, sl, rel, h, p, xp⟩ => ?_) (pe_lock he)
  unfold dLck at h
  split at h
  · next j ei =>
    obtain ⟨v, hv, a, ha, rfl⟩ := sl.at_ i _ ei
    split at h
    · next kvs ej =>
      obtain ⟨g0, es, hH, rk⟩ := rel.at_ j a _ ha ej
      refine ⟨a, .dT es, hH, trivial, fun od => ?_⟩
      have rel1 := rel.write (o := .frz od (.dT es)) (c := .ldct od es kvs) ha ej hH g0 (fun b z => by cases z) (fun b z => by cases z) ⟨g0, upd_same, rk⟩
      refine ⟨G, α, Γ, _, _, X0, sl, rel1, h od es, fun r O' h' u G' α' H' e' p' rel' r' => ?_, xp0⟩
      obtain ⟨e2, h'⟩ := h'
      have ha' := pre_get' p'.1 ha
      obtain ⟨g1, hH', rk'⟩ := rel'.at_ j a _ ha' e2
      exact ⟨hH', p _ _ h' _ _ _ _ e' p' (rel'.write (o := .dT es) (c := .dct kvs) ha' e2 hH' g1 (fun b z => by cases z) (fun b z => by cases z) ⟨g1, es, upd_same, rk'⟩) r'⟩
    · next kvs ej =>
      obtain ⟨g0, es, hH, rk⟩ := rel.at_ j a _ ha ej
      refine ⟨a, .dK es, hH, trivial, fun od => ?_⟩
      have rel1 := rel.write (o := .frz od (.dK es)) (c := .ldic od es kvs) ha ej hH g0 (fun b z => by cases z) (fun b z => by cases z) ⟨g0, upd_same, rk⟩
      refine ⟨G, α, Γ, _, _, X0, sl, rel1, h od es, fun r O' h' u G' α' H' e' p' rel' r' => ?_, xp0⟩
      obtain ⟨e2, h'⟩ := h'
      have ha' := pre_get' p'.1 ha
      obtain ⟨g1, hH', rk'⟩ := rel'.at_ j a _ ha' e2
      exact ⟨hH', p _ _ h' _ _ _ _ e' p' (rel'.write (o := .dK es) (c := .dic kvs) ha' e2 hH' g1 (fun b z => by cases z) (fun b z => by cases z) ⟨g1, es, upd_same, rk'⟩) r'⟩
    · exact h.elim
  · exact h.elim
/-- its keys, tuples -/
def dKeysT (wo : DEx) : DI := fun Γ O S xe => wo Γ O (fun r O1 => match r with
  | .c j => (match O1[j]? with
    | some (.ldct od es kvs) => (kvs.all fun kv => kv.1.all keyOk) = true ∧ S (kvs.map fun kv => W.k kv.1) (fun O => O[j]? = some (.ldct od es kvs)) O1
    | _ => False)
  | _ => False) xe
theorem sim_keysT {K : Fg} {mg : Str → Option Value} {G0 : Hp} {α0 : Al} {a : Addr} {j : Nat} {od : Obj} {es : List (List Key × V)} {kvs : List (List Key × W)} (ha : α0.as[j]? = some a) (ok : (kvs.all fun kv => kv.1.all keyOk) = true) :
    Sim K mg (Itkt a od es) G0 α0 (kvs.map fun kv => W.k kv.1) fun O => O[j]? = some (.ldct od es kvs) := by
  intro i G α O H e p rel hok
  obtain ⟨g0, hH, rk⟩ := rel.at_ j a _ (pre_get' p ha) hok
  have hks := rk.ks
  have hl : es.length = kvs.length := by have := congrArg List.length hks; simpa using this
  refine ⟨fun hi => ⟨hH, by rw [List.length_map] at hi; omega⟩, fun w hw => ?_⟩
  rw [List.getElem?_map] at hw
  cases hk : kvs[i]? with
  | none => rw [hk] at hw; cases hw
  | some kv =>
    rw [hk] at hw
    cases hw
    have hi := (List.getElem?_eq_some_iff.mp hk).1
    refine ⟨⟨hH, by omega⟩, fun x H' ⟨eH, q, v, b, h1, ex, hb⟩ => ?_⟩
    subst eH ex
    have h2 := congrArg (fun l => l[i]?) hks
    simp only [List.getElem?_map, h1, hk, Option.map_some, Option.some.injEq] at h2
    subst h2
    obtain ⟨G', e', rel', gb⟩ := rel.know hb
    exact ⟨G', e', rel', List.all_eq_true.mp ok kv (List.mem_of_getElem? hk), b, rfl, gb⟩
theorem di_keysT (hl : DE X Wx e wa) : DIt X Wx tg e (dKeysT wa) := by
  refine pi_imp (fun σ H R ⟨G, α, Γ, O, S, xe, sl, rel, h, xp, q⟩ => ?_) (pi_keys hl)
  refine ⟨G, α, Γ, O, _, xe, sl, rel, h, fun x O1 h1 v G1 α1 H1 e1 p1 rel1 r1 => ?_, xp⟩
  dsimp only at h1
  split at h1
  · next j =>
    obtain ⟨a, ha, rfl⟩ := r1
    split at h1
    · next od es kvs ej =>
      obtain ⟨g0, hH, rk⟩ := rel1.at_ j a _ ha ej
      exact ⟨a, od, rfl, .inr ⟨es, hH, q _ _ _ h1.2 _ _ _ _ e1 p1 rel1 (sim_keysT ha h1.1)⟩⟩
    · exact h1.elim
  · exact h1.elim
end
/-! #### d.pop(key) -/
def rPopT1 : V → List V → Hp → VK → Prop := fun x xs H Q => ∃ (a : Addr) (kvs : List (List L2.Key × V)) (k : List L2.Key) (b : Addr) (v : V), x = .ref a ∧ xs = [.ref b] ∧ H a = some (.dT kvs) ∧ H b = some (.tup (k.map kV)) ∧ valV kvs k = some v ∧ Q v (upd H a (.dT (dropK kvs k)))
theorem mt_popT1 {X : Cx} (hu : X.A.units + 1 < cLine) : MtR X "dict.pop" rPopT1 := by
  intro pins s σ H x xs v us Q I rx rxs h
  obtain ⟨a, kvs, k, b, v0, rfl, rfl, ha, hb, hv, q⟩ := h
  cases rx
  obtain ⟨u1, rfl, r1⟩ := vals1 rxs
  cases r1
  obtain ⟨z, hd, ys, rel, dd⟩ := dt_of I.hok ha
  have r := rel.val k
  rw [hv] at r
  cases hat : atKey ys k with
  | none => rw [hat] at r; exact (show False from r).elim
  | some pr =>
    rw [hat] at r
    refine call_pop_heap (more := []) (.inl rfl) (PySem.F.args_dict_pop_2 _ _) (tupleKind_room_in1 hu) (key_of I.hok hb) hd dd hat (fun h' dd' hs => ?_) (by rw [← Paired.length rel]; exact z)
    obtain ⟨o, es, ep, hq, h2, h3, h4, _, h5⟩ := dd'
    have J : Inv X pins σ (upd H a (.dT (dropK kvs k))) { s with heap := h', toks := s.toks + (tupleKind (mixKind X.prog X.w)).draws k } :=
      d_write I (by rw [ha]; exact True.intro) hs ⟨o, hq⟩ ⟨Nat.le_trans (dropK_le kvs k) z, hd, _, (L2.DX.KT_drop k rel).keeps (fun c ys ec => (by rw [upd_ne (ne_of ec ha (fun z => nomatch z))]; exact ec)), o, es, ep, hq, h2, h3, h4, h5⟩
    exact ⟨v0, _, J, r, q⟩
def dPopK : DM := fun x xs O R => match x, xs with
  | .c j, [y] => (match O[j]? with
    | some (.dct kvs) => (match keyT y with
      | some q => (match valW kvs q with
        | some w => R w (O.set j (.dct (dropW kvs q)))
        | none => False)
      | none => False)
    | _ => False)
  | _, _ => False
theorem s_popK {K : Fg} {mg : Str → Option Value} : MtS K mg dPopK rPopT1 := by
  intro G α O H x xs v vs R Q rel rx rxs h p
  unfold dPopK at h
  split at h
  · next j y =>
    obtain ⟨a, ha, rfl⟩ := rx
    obtain ⟨u, rfl, ru⟩ := rv1 rxs
    split at h
    · next kvs ej =>
      obtain ⟨g0, es, hH, rk⟩ := rel.at_ j a _ ha ej
      split at h
      · next q eq =>
        obtain ⟨b, rfl, hb⟩ := keyT_ok ru eq
        split at h
        · next w ew =>
          rcases rk.val q with ⟨e1, e2⟩ | ⟨z, w', e1, e2, r⟩
          · rw [e2] at ew; cases ew
          · rw [e2] at ew
            cases ew
            refine ⟨a, es, q, b, z, rfl, rfl, hH, rel.ex _ _ hb, e1, ?_⟩
            have rel2 := rel.write (o := .dT (dropK es q)) (c := .dct (dropW kvs q)) ha ej hH g0 (fun b z => by cases z) (fun b z => by cases z) ⟨g0, _, upd_same, rk.drop q⟩
            exact p _ _ h _ _ _ _ (Ex.refl _) (Pre.refl _) rel2 r
        · exact h.elim
      · exact h.elim
    · exact h.elim
  · exact h.elim
end Dl
/-! ### sorted(xs), xs tuples that differ in the two texts at their heads -/
namespace Dl
open PySem PySem.Spec PyProof.Rows L2
open PySem.W (SortsAt EachIs sortLe sortVals_each sorted_vals sorting_copy_old sortingHeap copyHeap kat_kind kat_lt kat_cons kat_yes kat_no KatLex katLex_alike each_katTups looks_reads alike dataLt sortVals)
variable [TabsC]
/-- the two texts at the head of a tuple -/
def hd2 : PyData → Option (Str × Str)
  | .tuple (.str a :: .str b :: _) => some (a, b)
  | _ => none
theorem hd2_eq {d : PyData} {p : Str × Str} (h : hd2 d = some p) : ∃ r, d = .tuple (.str p.1 :: .str p.2 :: r) := by
  unfold hd2 at h
  split at h
  · cases h; exact ⟨_, rfl⟩
  · cases h
abbrev tok2 (p : Str × Str) : List (List Nat) := [p.1.cps.toList, p.2.cps.toList]
theorem str_cps {a b : Str} (h : a.cps.toList = b.cps.toList) : a = b := by
  cases a; cases b
  congr 1
  exact Array.toList_inj.mp h
theorem tok2_inj {p q : Str × Str} (h : tok2 p = tok2 q) : p = q := by
  injection h with h1 h2
  injection h2 with h2 _
  exact Prod.ext (str_cps h1) (str_cps h2)
abbrev O2 : KeyOrd := PyProof.Rows.listOrd (PyProof.Rows.strKind).toKeyOrd
theorem hd2_vals {h : Heap} {v : Value} {d : PyData} {p : Str × Str} {as : List Addr} (r : Reads h v d as) (e : hd2 d = some p) :
    ∃ a o xs n t u rest, v = .ref a ∧ h.get? a = some o ∧ o.data = .seq xs n ∧ xs.toList = .str p.1 t :: .str p.2 u :: rest := by
  obtain ⟨q, rfl⟩ := hd2_eq e
  cases r with
  | @tuple a o xs n _ _ h1 h2 h3 h4 =>
    cases hx : xs.toList with
    | nil => rw [hx] at h4; cases h4
    | cons v0 r0 =>
      rw [hx] at h4
      cases h4 with
      | cons r1 r2 =>
        cases r1
        cases r0 with
        | nil => cases r2
        | cons v1 r0 =>
          cases r2 with
          | cons r3 r4 =>
            cases r3
            exact ⟨a, o, xs, n, _, _, _, rfl, h1, h3, hx⟩
theorem hd2_uniq {h : Heap} {v : Value} {d d' : PyData} {p p' : Str × Str} {as as' : List Addr} (r : Reads h v d as) (e : hd2 d = some p) (r' : Reads h v d' as') (e' : hd2 d' = some p') : p = p' := by
  obtain ⟨a, o, xs, n, t, u, rest, rfl, h1, h2, h3⟩ := hd2_vals r e
  obtain ⟨a', o', xs', n', t', u', rest', ev, h1', h2', h3'⟩ := hd2_vals r' e'
  cases ev
  rw [h1] at h1'
  cases h1'
  rw [h2] at h2'
  cases h2'
  rw [h3] at h3'
  injection h3' with q1 q2
  injection q2 with q2 _
  injection q1 with q1 _
  injection q2 with q2 _
  exact Prod.ext q1 q2
noncomputable def kind2 (h : Heap) (ds : List PyData) : PyProof.Rows.KeyKind where
  toKeyOrd := O2
  keyOf v := open Classical in if q : ∃ p, ∃ d, d ∈ ds ∧ hd2 d = some p ∧ ∃ as, Reads h v d as then some (tok2 q.choose) else none
  dflt := ([] : List (List Nat))
theorem kind2_some {h : Heap} {ds : List PyData} {v : Value} {d : PyData} {p : Str × Str} {as : List Addr} (hd : d ∈ ds) (e : hd2 d = some p) (r : Reads h v d as) : (kind2 h ds).keyOf v = some (tok2 p) := by
  have q : ∃ p, ∃ d, d ∈ ds ∧ hd2 d = some p ∧ ∃ as, Reads h v d as := ⟨p, d, hd, e, as, r⟩
  have e1 : (kind2 h ds).keyOf v = some (tok2 q.choose) := by
    show (open Classical in if q : ∃ p, ∃ d, d ∈ ds ∧ hd2 d = some p ∧ ∃ as, Reads h v d as then some (tok2 q.choose) else none) = _
    rw [dif_pos q]
  obtain ⟨d', _, e', as', r'⟩ := q.choose_spec
  rw [e1, hd2_uniq r' e' r e]
theorem kind2_inv {h : Heap} {ds : List PyData} {v : Value} {k : List (List Nat)} (e : (kind2 h ds).keyOf v = some k) : ∃ d p as, d ∈ ds ∧ hd2 d = some p ∧ Reads h v d as ∧ k = tok2 p := by
  by_cases q : ∃ p, ∃ d, d ∈ ds ∧ hd2 d = some p ∧ ∃ as, Reads h v d as
  · have e1 : (kind2 h ds).keyOf v = some (tok2 q.choose) := by
      show (open Classical in if q : ∃ p, ∃ d, d ∈ ds ∧ hd2 d = some p ∧ ∃ as, Reads h v d as then some (tok2 q.choose) else none) = _
      rw [dif_pos q]
    obtain ⟨d', h1, e', as', r'⟩ := q.choose_spec
    rw [e1] at e
    exact ⟨d', _, as', h1, e', r', (Option.some.inj e).symm⟩
  · have e1 : (kind2 h ds).keyOf v = none := by
      show (open Classical in if q : ∃ p, ∃ d, d ∈ ds ∧ hd2 d = some p ∧ ∃ as, Reads h v d as then some (tok2 q.choose) else none) = _
      rw [dif_neg q]; rfl
    rw [e1] at e
    cases e
section
variable {prog : Program} {w : World} {A : Around} {E : Value → Shared → Prop} {s : Shared}
theorem lt_strs (a b : Str) : dataLt (.str a) (.str b) = (PyProof.Rows.strKind).blt a.cps.toList b.cps.toList := by
  show PyProof.Rows.lexLt PyProof.Rows.itemOrd [.inr a.cps.toList] [.inr b.cps.toList] = _
  rw [PyProof.Rows.lex_cons]
  show (PyProof.Rows.strKind.blt a.cps.toList b.cps.toList || (!PyProof.Rows.strKind.blt b.cps.toList a.cps.toList && false)) = _
  simp
theorem katLex_two {fin : Bool} {Q : Bool → Shared → Prop} {p q : Str × Str} {t u t' u' : Tok} {r r' : List Value} (hu : A.units < cLine) (hne : p ≠ q) (hq : Q (O2.blt (tok2 p) (tok2 q)) s) :
    KatLex prog w A true fin Q (List.zip (.str p.1 t :: .str p.2 u :: r) (.str q.1 t' :: .str q.2 u' :: r')) 0 s := by
  have e1 : O2.blt (tok2 p) (tok2 q) = ((PyProof.Rows.strKind).blt p.1.cps.toList q.1.cps.toList || (!(PyProof.Rows.strKind).blt q.1.cps.toList p.1.cps.toList && PyProof.Rows.lexLt (PyProof.Rows.strKind).toKeyOrd [p.2.cps.toList] [q.2.cps.toList])) := PyProof.Rows.lex_cons _ _ _ _
  have e2 : PyProof.Rows.lexLt (PyProof.Rows.strKind).toKeyOrd [p.2.cps.toList] [q.2.cps.toList] = (PyProof.Rows.strKind).blt p.2.cps.toList q.2.cps.toList := by
    rw [PyProof.Rows.lex_cons]
    show (PyProof.Rows.strKind.blt _ _ || (!PyProof.Rows.strKind.blt _ _ && false)) = _
    simp
  rw [List.zip_cons_cons, List.zip_cons_cons]
  refine kat_cons (wpAny_eqBool_str ?_)
  by_cases z : p.1 = q.1
  · rw [decide_eq_true z]
    refine kat_yes (kat_cons (wpAny_eqBool_str ?_))
    have z2 : p.2 ≠ q.2 := fun h => hne (Prod.ext z h)
    rw [decide_eq_false z2]
    refine kat_no (PySem.W.oneLt_alike (da := .str p.2) (db := .str q.2) (fun _ _ h => by cases h) (.str _ _) (.str _ _) rfl (fun h => by cases h) (by simpa [PyData.depth] using hu) ?_)
    rw [lt_strs, ← e2]
    rw [e1, z, (PyProof.Rows.strKind).irrefl] at hq
    exact hq
  · rw [decide_eq_false z]
    refine kat_no (PySem.W.oneLt_alike (da := .str p.1) (db := .str q.1) (fun _ _ h => by cases h) (.str _ _) (.str _ _) rfl (fun h => by cases h) (by simpa [PyData.depth] using hu) ?_)
    rw [lt_strs]
    have hz : p.1.cps.toList ≠ q.1.cps.toList := fun h => z (str_cps h)
    have e3 : O2.blt (tok2 p) (tok2 q) = (PyProof.Rows.strKind).blt p.1.cps.toList q.1.cps.toList := PyProof.Rows.lex_diff hz
    rw [e3] at hq
    exact hq
theorem nodup_map_inj {α β : Type} {f : α → β} : ∀ {xs : List α} {a b : α}, (xs.map f).Nodup → a ∈ xs → b ∈ xs → f a = f b → a = b
  | [], _, _, _, h, _, _ => by cases h
  | x :: xs, a, b, nd, ha, hb, e => by
    rw [List.map_cons, List.nodup_cons] at nd
    rcases List.mem_cons.mp ha with ea | ha
    · rcases List.mem_cons.mp hb with eb | hb
      · rw [ea, eb]
      · exact absurd (List.mem_map.mpr ⟨b, hb, by rw [← ea, e]⟩) nd.1
    · rcases List.mem_cons.mp hb with eb | hb
      · exact absurd (List.mem_map.mpr ⟨a, ha, by rw [← eb, e]⟩) nd.1
      · exact nodup_map_inj nd.2 ha hb e
theorem sorts2 {vs : List Value} {ds : List PyData} (e : EachIs (fun v d => ∃ as, Reads s.heap v d as) vs ds) (hk : ∀ d ∈ ds, ∃ p, hd2 d = some p) (nd : (ds.map hd2).Nodup) (self : ∀ d ∈ ds, alike d d = true) (hu : ∀ d ∈ ds, A.units + d.depth < cLine) : SortsAt prog w A s (kind2 s.heap ds) vs := by
  refine ⟨fun v hv => ?_, tuples' true, ?_, fun h2 E Q hq => ?_⟩
  · obtain ⟨d, hd, as, r⟩ := e.left v hv
    obtain ⟨p, hp⟩ := hk d hd
    exact ⟨_, kind2_some hd hp r⟩
  · intro E x y a b Q ha hb hq
    obtain ⟨d, p, as, hd, ep, ra, rfl⟩ := kind2_inv ha
    obtain ⟨d', p', as', hd', ep', rb, rfl⟩ := kind2_inv hb
    by_cases z : p = p'
    · subst z
      have ed : d = d' := nodup_map_inj nd hd hd' (ep.trans ep'.symm)
      subst ed
      have hq' : Q false s := by
        have : (kind2 s.heap ds).blt (tok2 p) (tok2 p) = false := O2.irrefl _
        rw [this] at hq
        exact hq
      have hal := self d hd
      obtain ⟨r, rfl⟩ := hd2_eq ep
      have hr := hu _ hd
      cases ra with
      | @tuple l o xs n _ _ h1 h2 h3 h4 =>
        cases rb with
        | @tuple l' o' xs' n' _ _ k1 k2 k3 k4 =>
          have n1 : xs.size = (PyData.str p.1 :: .str p.2 :: r).length := by simpa using SeqAt.ReadsAll.length _ _ _ h4
          have n2 : xs'.size = (PyData.str p.1 :: .str p.2 :: r).length := by simpa using SeqAt.ReadsAll.length _ _ _ k4
          refine kat_lt h1 h3 k1 k3 (katLex_alike _ _ 0 _ _ _ _ h4 k4 (by simpa [alike] using hal) ?_ (fun _ _ x q t ex => ?_) (by rw [n1, n2]) ?_)
          · have : (PyData.tuple (.str p.1 :: .str p.2 :: r)).depth = PyData.depthAll (.str p.1 :: .str p.2 :: r) + 1 := by simp [PyData.depth]
            rw [Nat.min_self]
            omega
          · obtain ⟨rfl, _⟩ := List.cons.inj ex
            exact fun h => by cases h
          · rw [PyProof.Rows.lex_irrefl]
            exact hq'
    · obtain ⟨l, o, xs, n, t, u, r, rfl, h1, h2, h3⟩ := hd2_vals ra ep
      obtain ⟨l', o', xs', n', t', u', r', rfl, k1, k2, k3⟩ := hd2_vals rb ep'
      refine kat_lt h1 h2 k1 k2 ?_
      rw [h3, k3]
      exact katLex_two (by have := hu d hd; omega) z hq
  · obtain ⟨fs, t1, t2, t3⟩ := each_katTups e fun d hd => by
      obtain ⟨p, hp⟩ := hk d hd
      obtain ⟨r, rfl⟩ := hd2_eq hp
      exact ⟨_, _, rfl⟩
    refine kat_kind (T := .type "str") t1 (by omega) (fun f hf => ?_) (beq_self_eq_true _) hq
    obtain ⟨x, r, as, m1, m2⟩ := t3 f hf
    obtain ⟨p, hp⟩ := hk _ m1
    obtain ⟨q, eq⟩ := hd2_eq hp
    injection eq with eq
    injection eq with eq _
    subst eq
    exact looks_reads m2
theorem sorted_two {β : Type} {l : Addr} {vs : List Value} {bs : List β} {enc : β → PyData} {kf : β → Str × Str} {R : Value → β → Prop} {Q : Value → Shared → Prop} (hl : s.heap.IsList l vs.toArray) (e : EachIs R vs bs) (er : EachIs (fun v b => ∃ as, Reads s.heap v (enc b) as) vs bs)
    (hk : ∀ b ∈ bs, hd2 (enc b) = some (kf b)) (nd : ((bs.map enc).map hd2).Nodup) (self : ∀ d ∈ bs.map enc, alike d d = true) (hL : bs.length ≤ sizeLine) (hu : ∀ d ∈ bs.map enc, A.units + 2 + d.depth < cLine)
    (h : ∀ out, EachIs R out (bs.mergeSort (sortLe O2 false fun b => tok2 (kf b))) → Q (.ref (s.heap.objs.size + 1)) { s with heap := sortedAll s.heap vs (List.toArray out) }) :
    wpAny (model prog w) A (call (.builtin "sorted") [.ref l]) Q E s := by
  have er2 : EachIs (fun v b => ∃ as, Reads (sortingHeap (copyHeap s.heap vs) (s.heap.objs.size + 1) vs) v (enc b) as) vs bs := er.mono fun _ _ ⟨as, r⟩ => ⟨as, PyProof.Rows.Reads.keeps (fun _ _ => sorting_copy_old) r⟩
  have hk2 : ∀ d ∈ bs.map enc, ∃ p, hd2 d = some p := fun d hd => by
    obtain ⟨b, hb, rfl⟩ := List.mem_map.mp hd
    exact ⟨_, hk b hb⟩
  have S := sorts2 (prog := prog) (w := w) (A := A.in1.in1) (s := { s with heap := sortingHeap (copyHeap s.heap vs) (s.heap.objs.size + 1) vs }) (PySem.W.each_map (R := fun v d => ∃ as, Reads (sortingHeap (copyHeap s.heap vs) (s.heap.objs.size + 1) vs) v d as) enc er2) hk2 nd self hu
  refine sorted_vals hl S (by rw [e.length]; exact hL) (h _ (sortVals_each (κ := kind2 (sortingHeap (copyHeap s.heap vs) (s.heap.objs.size + 1) vs) (bs.map enc)) (fun b => tok2 (kf b)) e ?_))
  refine (PySem.W.each_mem er2).mono fun v b ⟨⟨as, r⟩, hb⟩ => ?_
  exact kind2_some (List.mem_map.mpr ⟨b, hb, rfl⟩) (hk b hb) r
end
end Dl
/-! ### sorted(xs), tuples that differ in the two texts at their heads: the reading -/
namespace Dl
open PySem PySem.Spec PyProof.Rows L2
variable [TabsC]
def k2 (d : PyData) : Str × Str := (hd2 d).getD ("", "")
def le2 (d e : PyData) : Bool := PySem.W.sortLe O2 false (fun d => tok2 (k2 d)) d e
def srt2 (ds : List PyData) : List PyData := ds.mergeSort le2
/-- what such a sort takes -/
def twoB (ds : List PyData) : Prop := (∀ d ∈ ds, (hd2 d).isSome = true) ∧ (ds.map hd2).Nodup ∧ (∀ d ∈ ds, PySem.W.alike d d = true) ∧ ds.all (shp 40) = true
def rSort2 (K : Fg) : List V → Hp → VK → Prop := fun xs H Q => ∃ (a : Addr) (vs : List V) (ds : List PyData), xs = [.ref a] ∧ SqL K H a vs ∧ DpAll K H vs ds ∧ (∀ d ∈ ds, (hd2 d).isSome = true) ∧ (ds.map hd2).Nodup ∧ (∀ d ∈ ds, PySem.W.alike d d = true) ∧ (∀ d ∈ ds, d.depth ≤ 64) ∧
  ∀ p, H p = none → Q (.ref p) (upd H p (.lst (((vs.zip ds).mergeSort fun b c => le2 b.2 c.2).map Prod.fst)))
theorem cr_sort2 {X : Cx} (hu : X.A.units + 100 < cLine) : CallR X (.builtin "sorted") (rSort2 X.K) := by
  intro pins s σ H xs us Q I r h
  obtain ⟨a, vs, ds, rfl, hs, dp, hk, nd, al, hd, q⟩ := h
  obtain rfl := Vals.ref1 r
  obtain ⟨its, rv, pl, hz⟩ := I.list hs
  have hlen := dpAll_len dp
  obtain ⟨e1, e2⟩ := each_of I dp rv
  have hm := zip_snd hlen
  refine sorted_two (enc := Prod.snd) (kf := fun b => k2 b.2) pl.isList e1 e2 (fun b hb => ?_) (by rw [hm]; exact nd) (by rw [hm]; exact al) (by rw [List.length_zip]; omega) (fun d hd2 => ?_) fun out he => ?_
  · have hb2 : b.2 ∈ ds := by rw [← hm]; exact List.mem_map.mpr ⟨b, hb, rfl⟩
    have := hk _ hb2
    unfold k2
    cases z : hd2 b.2 with
    | none => rw [z] at this; cases this
    | some p => rfl
  · rw [hm] at hd2
    have := hd _ hd2
    omega
  · obtain ⟨ep, at'⟩ := PyProof.Rows.sortedAll_at s.heap its out.toArray
    have lz : (((vs.zip ds).mergeSort fun b c => le2 b.2 c.2).map Prod.fst).length ≤ sizeLine := by rw [List.length_map, List.length_mergeSort, List.length_zip]; omega
    exact ⟨.ref _, upd H (s.heap.objs.size + 1) (.lst (((vs.zip ds).mergeSort fun b c => le2 b.2 c.2).map Prod.fst)), I.laid (t' := s.toks) (fun _ _ => PyProof.Rows.sortedAll_old) (Nat.le_succ _) ⟨lz, out, ep, each_vals he, at'⟩, rfl, q _ (I.hok.fresh (Nat.le_succ _))⟩
theorem srt2_out {vs : List V} {ds : List PyData} (h : vs.length = ds.length) : ((vs.zip ds).mergeSort fun b c => le2 b.2 c.2).map Prod.snd = srt2 ds := by
  unfold srt2
  conv => rhs; rw [← zip_snd h]
  exact List.map_mergeSort fun a _ b _ => rfl
theorem rpL_srt2 {K : Fg} {G : Hp} {ds : List PyData} {vs : List V} (h : RpL K G vs ds) : RpL K G (((vs.zip ds).mergeSort fun b c => le2 b.2 c.2).map Prod.fst) (srt2 ds) := by
  rw [← srt2_out h.length]
  exact rpL_of_pairs fun b hb => rpL_mem h b ((List.mergeSort_perm _ _).mem_iff.mp hb)
def dSortT : DC := fun xs O R => match xs with
  | [x] => (match asL x O with
    | some ws => (match datas ws with
      | some ds => twoB ds ∧ R (.d (.list (srt2 ds))) O
      | none => False)
    | none => False)
  | _ => False
theorem s_sortT {K : Fg} {mg : Str → Option Value} : CallS K mg dSortT (rSort2 K) := by
  intro G α O H xs vs R Q rel rl h p
  unfold dSortT at h
  split at h
  · next x =>
    obtain ⟨v, rfl, rv⟩ := rv1 rl
    split at h
    · next ws ew =>
      split at h
      · next ds ed =>
        obtain ⟨⟨hk, nd, al, sh⟩, h⟩ := h
        obtain ⟨a, us, rfl, hs, ra⟩ := asL_ok rel rv ew
        rw [datas_eq ed] at ra
        have rp := ra.toD
        refine ⟨a, us, ds, rfl, SqL.of hs, rp_dps 40 ds rel.ex rp sh, hk, nd, al, fun d hd => Nat.le_trans (shp_depth 40 d (List.all_eq_true.mp sh d hd)) (by decide), fun l hl => ?_⟩
        have ge := rel.ex.free hl
        exact p.lay h rel hl (.lst upd_same ((rpL_srt2 rp).mono (Ex.new ge)))
      · exact h.elim
    · exact h.elim
  · exact h.elim
/-! #### what such a sort gives -/
theorem srt2_perm (ds : List PyData) : (srt2 ds).Perm ds := List.mergeSort_perm _ _
theorem srt2_pw (ds : List PyData) : (srt2 ds).Pairwise fun d e => le2 d e = true := by
  unfold srt2
  have T := PySem.W.sortLe_total O2 false fun d => tok2 (k2 d)
  exact List.pairwise_mergeSort T.trans (fun a b => by rw [Bool.or_eq_true]; exact T.total a b) ds
/-- in order, and a permutation: it is the sorted one -/
theorem srt2_of {xs ys : List PyData} (hp : ys.Perm xs) (nd : (xs.map k2).Nodup) (hs : ys.Pairwise fun d e => le2 d e = true) : ys = srt2 xs := by
  refine List.Perm.eq_of_pairwise (le := fun a b => le2 a b = true) (fun a b ha hb h1 h2 => ?_) hs (srt2_pw xs) (hp.trans (srt2_perm xs).symm)
  have e1 : O2.blt (tok2 (k2 b)) (tok2 (k2 a)) = false := by
    have : (!O2.blt (tok2 (k2 b)) (tok2 (k2 a))) = true := h1
    simpa using this
  have e2 : O2.blt (tok2 (k2 a)) (tok2 (k2 b)) = false := by
    have : (!O2.blt (tok2 (k2 a)) (tok2 (k2 b))) = true := h2
    simpa using this
  have e3 : k2 a = k2 b := tok2_inj (O2.total _ _ e2 e1)
  exact nodup_map_inj nd (hp.mem_iff.mp ha) ((srt2_perm xs).mem_iff.mp hb) e3
end Dl
/-! ### a list so many times -/
/-! ### defs with defaults -/
namespace Dl
open PySem PySem.Spec PyProof.Rows L2
variable [TabsC]
structure FunT (K : Fg) (x qual : Str) (st : Stmt) (T : Addr) (its : Array Value) (f : Addr) (fd : FuncData) : Prop where
  ex : ∃ (oc : Value) (od : Option Addr) (kV doc pm : Value) (an : Option Addr) (cdv ct : Value) (osl : Array (Option Value)),
    fd = PySem.W.fnOf x qual (defArgs st) (defBody st) (defScope st) (.ref T) kV doc pm an cdv ct ∧ K.lookup f = some ⟨oc, od, .func fd, osl⟩ ∧ PySem.W.codeIn K cdv qual = true
  tx : ∃ (o : Obj) (n : Nat), K.lookup T = some o ∧ o.data = .seq its n
section
variable {P : Program} {w : World} {K : Fg} {mg : Str → Option Value} {base : Heap} {x qual : Str} {st : Stmt} {T : Addr} {its : Array Value} {f : Addr} {fd : FuncData}
/-- a call that gives the first ones; the last ones are the defaults -/
theorem FunT.binds {ps : List Str} (F : FunT K x qual st T its f fd) (ds : List Value)
    (h : ∀ (kV doc pm : Value) (an : Option Addr) (cdv ct : Value) (us : List Value), us.length + ds.length = ps.length →
      ∃ k, bindArgs (PySem.W.fnOf x qual (defArgs st) (defBody st) (defScope st) (.ref T) kV doc pm an cdv ct) ⟨us, []⟩ = seqItems? (.ref T) >>= k ∧ k (some its) = pure (ps.zip (us ++ ds))) : Binds K fd ps ds := by
  obtain ⟨oc, od, kV, doc, pm, an, cdv, ct, osl, rfl, lk, hcd⟩ := F.ex
  obtain ⟨o, n, lT, oT⟩ := F.tx
  intro s us X hl
  rw [List.length_append] at hl
  obtain ⟨k, e1, e2⟩ := h kV doc pm an cdv ct us hl
  refine BindsTo.of_looks fun M => ?_
  rw [e1]
  exact looks_items X lT oT (.of_pure e2)
end
end Dl
/-! ### sorted(d.items()), d from texts to texts: at the machine -/
/-! ### sorted(d.items()), d from texts to texts: the reading -/
namespace Dl
open PySem PySem.Spec PyProof.Rows L2
variable [TabsC]
section
variable {K : Fg} {mg : Str → Option Value} {G : Hp} {α : Al} {O : Oh} {H H' : Hp}
theorem COk.know {a q : Addr} {o : HO} {c : Cell} (nq : G q = none) (hq : H q = some o) (no : ∀ b, o ≠ .own b) (na : a ≠ q) (w : COk K mg G α H a c) : COk K mg (upd G q o) α H a c := by
  have up : ∀ {b : Addr}, b ≠ q → G b = none → (upd G q o) b = none := fun ne e => by rw [upd_ne ne]; exact e
  cases c with
  | lst ys => obtain ⟨h0, vs, e, h⟩ := w; exact ⟨up na h0, vs, e, h.mono (Ex.new nq) (Pre.refl _)⟩
  | dic ys => obtain ⟨h0, vs, e, h⟩ := w; exact ⟨up na h0, vs, e, h.mono (Ex.new nq) (Pre.refl _)⟩
  | dct ys => obtain ⟨h0, vs, e, h⟩ := w; exact ⟨up na h0, vs, e, h.mono (Ex.new nq) (Pre.refl _)⟩
  | ldic od es ys => obtain ⟨h0, e, h⟩ := w; exact ⟨up na h0, e, h.mono (Ex.new nq) (Pre.refl _)⟩
  | ldct od es ys => obtain ⟨h0, e, h⟩ := w; exact ⟨up na h0, e, h.mono (Ex.new nq) (Pre.refl _)⟩
  | ins C ys => obtain ⟨h0, Ca, dx, es, q1, q2, q3, q4, q5, h⟩ := w; exact ⟨up na h0, Ca, dx, es, q1, q2, q3, up (fun z => by rw [z, hq] at q3; exact no _ (Option.some.inj q3)) q4, q5, h.mono (Ex.new nq) (Pre.refl _)⟩
  | gone => trivial
theorem COk.push {a l : Addr} {vs : List V} {c : Cell} (hl : H l = some (.lst vs)) (w : COk K mg G α H a c) : COk K mg G (α.push l) H a c := by
  cases c with
  | lst ys => obtain ⟨h0, vs, e, h⟩ := w; exact ⟨h0, vs, e, h.mono (Ex.refl _) Pre.push⟩
  | dic ys => obtain ⟨h0, vs, e, h⟩ := w; exact ⟨h0, vs, e, h.mono (Ex.refl _) Pre.push⟩
  | dct ys => obtain ⟨h0, vs, e, h⟩ := w; exact ⟨h0, vs, e, h.mono (Ex.refl _) Pre.push⟩
  | ldic od es ys => obtain ⟨h0, e, h⟩ := w; exact ⟨h0, e, h.mono (Ex.refl _) Pre.push⟩
  | ldct od es ys => obtain ⟨h0, e, h⟩ := w; exact ⟨h0, e, h.mono (Ex.refl _) Pre.push⟩
  | ins C ys =>
    obtain ⟨h0, Ca, dx, es, q1, q2, q3, q4, q5, h⟩ := w
    refine ⟨h0, Ca, dx, es, q1, q2, q3, q4, fun z => ?_, h.mono (Ex.refl _) Pre.push⟩
    rcases List.mem_append.mp z with z | z
    · exact q5 z
    · have : dx = l := by simpa using z
      rw [this, hl] at q3; cases q3
  | gone => trivial
end
end Dl
/-! ### d.setdefault, int(bool), calls that leave defaults out -/
namespace Dl
open PySem PySem.Spec PyProof.Rows L2
variable [TabsC]
def dIntB : DC := fun xs O R => match xs with
  | [.d (.bool b)] => R (.d (.int (if b then 1 else 0))) O
  | [.d (.int i)] => R (.d (.int i)) O
  | _ => False
theorem s_intB {K : Fg} {mg : Str → Option Value} : CallS K mg dIntB (fun xs H Q => (∃ i, xs = [.int i] ∧ Q (.int i) H) ∨ ∃ k, xs = [.bl k] ∧ Q (.int (if k then 1 else 0)) H) := by
  intro G α O H xs vs R Q rel rl h p
  unfold dIntB at h
  split at h
  · next b =>
    obtain ⟨v, rfl, rv⟩ := rv1 rl
    cases rv
    exact .inr ⟨b, rfl, p.here h rel (show Rp K G _ (.int _) from .int _)⟩
  · next i =>
    obtain ⟨v, rfl, rv⟩ := rv1 rl
    cases rv
    exact .inl ⟨i, rfl, p.here h rel (show Rp K G _ (.int _) from .int _)⟩
  · exact h.elim
end Dl
/-! ### xs[i], ys[j] = e1, e2 -/
/-! ### an empty dict in a tuple of texts: no -/
namespace Dl
open PySem PySem.Spec PyProof.Rows L2 PySem.SeqAt PySem.MeetsSeq PySem.AutoSeq1 PySem.Calls
variable [TabsC]
theorem str_eq_declines_dict (b : Str) (u : Tok) (l : Addr) (c : Value) (es : Array DictEntry) (n : Nat) (dd : Option Addr) (sl : Array (Option Value)) :
    Meets (Builtin.«str.__eq__» ⟨[.str b u, .ref l], []⟩) (fun _ R s => s.heap.get? l = some { cls := c, dict := dd, data := .dict es n, slots := sl } ∧ R (.ok (.ret .notImplemented)) s) :=
  .of_wp fun prog w A R s h => by obtain ⟨hp, g, d, tk, os⟩ := s; obtain ⟨hl, h⟩ := h; wp_walk using wpAny_loadPart' hl, wpAny_load hl; exact ⟨_, rfl, h⟩
theorem dict_eq_declines_str (l : Addr) (es : Array DictEntry) (n : Nat) (dd : Option Addr) (sl : Array (Option Value)) (b : Str) (u : Tok) :
    Meets (Builtin.«dict.__eq__» ⟨[.ref l, .str b u], []⟩) (fun _ R s => s.heap.get? l = some { cls := .type "dict", dict := dd, data := .dict es n, slots := sl } ∧ R (.ok (.ret .notImplemented)) s) :=
  .of_wp fun prog w A R s h => by obtain ⟨hp, g, d, tk, os⟩ := s; obtain ⟨hl, h⟩ := h; have f1 := PySem.F.sub_str_dict; wp_walk using wpAny_loadPart' hl, wpAny_load hl; exact ⟨_, rfl, h⟩
section
variable {A : Around} {s : Shared}
theorem rcAt_str_dict {l : Addr} {o : Obj} {es : Array DictEntry} {n : Nat} (b : Str) (u : Tok) (ho : s.heap.get? l = some o) (hc : o.cls = .type "dict") (hd : o.data = .dict es n) (hu : A.units < cLine) : RcAt A s (.str b u) (.ref l) false := fun prog w E Q h => by
  obtain ⟨cls, dd, data, sl⟩ := o
  simp only at hc hd
  subst hc hd
  exact rc_eq_decline_or (k := false) (typeIs_str s b u) ⟨_, ho, rfl⟩ (by decide) PySem.F.sub_dict_str PySem.F.slot_str_eq PySem.F.slot_dict_eq_refl
    (fun _ hq => call_meets PySem.F.slot_str_eq (typeIs_str s b u) PySem.F.entry_str_eq (PySem.F.args_str_eq_2 _ _) (str_eq_declines_dict b u l (.type "dict") es n dd sl) ⟨ho, hq⟩)
    (fun _ hq => call_meets PySem.F.slot_dict_eq_refl ⟨_, ho, rfl⟩ PySem.F.entry_dict_eq (PySem.F.args_dict_eq_2 _ _) (dict_eq_declines_str l es n dd sl b u) ⟨ho, hq⟩)
    (fun _ hq => wpAny_of_eq (rfl : isSame (.str b u) (.ref l) = pure false) hq) (.inr hu) h
theorem eqAt_str_dict {l : Addr} {o : Obj} {es : Array DictEntry} {n : Nat} (b : Str) (u : Tok) (ho : s.heap.get? l = some o) (hc : o.cls = .type "dict") (hd : o.data = .dict es n) (hu : A.units < cLine) : EqAt A s (.str b u) (.ref l) false := fun prog w E Q h => by
  unfold eqBool
  refine wpAny_holding ?_
  refine wpAny_ite_split (fun hab => absurd (eq_of_beq hab) nofun) (fun _ => ?_)
  exact wpAny_bind (rcAt_str_dict b u ho hc hd hu prog w E _ (wpAny_truthy_bool h))
end
theorem paired_getR {α β : Type} {F : α → β → Prop} : ∀ {xs : List α} {ys : List β}, Paired F xs ys → ∀ {i : Nat} {y : β}, ys[i]? = some y → ∃ x, xs[i]? = some x ∧ F x y
  | _, _, .nil, i, y, h => by cases h
  | _, _, .cons r t, 0, y, h => by cases h; exact ⟨_, rfl, r⟩
  | _, _, .cons r t, i + 1, y, h => paired_getR t h
end Dl
/-! ### an except suite `as n` that raises: the name goes, the exception goes on (begun) -/
/-! ### try .. except x as n: (a suite that may raise) .. else -/
/-! ### values: try .. except C as n: raise C(..) from None, else .. -/
/-! ### membership where an empty dict may stand on either side -/
namespace Dl
open PySem PySem.Spec PyProof.Rows L2 PySem.SeqAt PySem.MeetsSeq PySem.AutoSeq1 PySem.Calls
variable [TabsC]
/-- x in ts: x may be an empty dict, if ts is a list of texts -/
def dInL : D2 := fun x y O R => match x, y with
  | .d (.dict []), .d (.list ds) => (match strsD ds with
    | some _ => R (.d (.bool false)) O
    | none => False)
  | x, y => dIn2 false x y O R
def oE : PyData → Bool
  | .dict [] => true
  | d => shp 39 d
/-- x not in ts: a text in a tuple that may hold empty dicts -/
def dNiO : D2 := fun x y O R => match x, y with
  | .d (.str i), .d (.tuple ds) => ds.all oE = true ∧ R (.d (.bool (!(ds.any fun z => PyData.eqv z (.str i))))) O
  | x, y => dIn2 true x y O R
end Dl
/-! ### a >= b, of texts -/
/-! ### a comprehension along zip of two lists while an exception is handled: at the machine -/
namespace Dl
open PySem PySem.Spec PyProof.Rows L2 HotX L2H
open LM (HotL)
variable [TabsC]
/-- the exception that is handled: its context is None, or one whose context is None -/
def HotB (A : Around) (x1 : Addr) (h : Heap) : Prop := A.handled = some (.ref x1) ∧ ∃ (o : Obj) (vs : Array Value), h.get? x1 = some o ∧ o.data = .fields vs ∧
  (vs[2]? = some .none ∨ ∃ (y : Addr) (oy : Obj) (vy : Array Value), vs[2]? = some (.ref y) ∧ h.get? y = some oy ∧ oy.data = .fields vy ∧ vy[2]? = some .none)
section
variable {prog : Program} {w : World} {A : Around} {E : Value → Shared → Prop} {s : Shared}
/-- what is kept of the heap keeps it hot -/
theorem HotB.keep {x1 : Addr} {h h' : Heap} (hot : HotB A x1 h) (k : ∀ b o vs, h.get? b = some o → o.data = .fields vs → (b = x1 ∨ ∃ o1 v1, h.get? x1 = some o1 ∧ o1.data = .fields v1 ∧ v1[2]? = some (.ref b)) → h'.get? b = some o) : HotB A x1 h' := by
  obtain ⟨hh, o, vs, e, d, c⟩ := hot
  refine ⟨hh, o, vs, k _ _ _ e d (.inl rfl), d, c.imp id fun ⟨y, oy, vy, c1, hy, dy, cy⟩ => ⟨y, oy, vy, c1, k _ _ _ hy dy (.inr ⟨o, vs, e, d, c1⟩), dy, cy⟩⟩
end
/-! #### iterators there -/
/-! #### the comprehension -/
end Dl
/-! ### values: several clauses, isinstance of what is handled, defs called within a suite -/
namespace Dl
open PySem PySem.Spec PyProof.Rows L2
open LM (HotL)
variable [TabsC]
/-! #### a def called while an exception is handled: at the machine -/
structure FnP (P : Program) (w : World) (K : Fg) (mg : Str → Option Value) (base : Heap) (CX : CXT) (k : Nat) (f : Addr) (fd : FuncData) (ps : List Str) (sp : Sp) (l : List (Addr × Obj)) : Prop where
  len : ∀ vs H Q E, sp vs H Q E → vs.length = ps.length
  run : ∀ (A : Around) (outer : List Env) (s : Shared) (H : Hp) (args : Args) (us : List Value) (vs : List V) (Q : VK) (E : XK), L2H.RoomH k A → HotL A l → (∀ p ∈ l, L2H.PinOk outer H s p) → Env0 P w K mg base A outer s H → BindsTo s fd args (ps.zip us) → Vals vs us → sp vs H Q E →
    codeAny (model P w) A (.call (.ref f) args) (CR CX outer P w H s Q E) s
/-- a place where an exception is handled -/
structure GoodH (X : Cx) (k : Nat) (l : List (Addr × Obj)) : Prop where
  hot : HotL X.A l
  sub : ∀ q ∈ l, q ∈ X.pn
  rm : L2H.RoomH k X.A
  nd : X.N.Nodup
/-- .. of the class nm, at a -/
structure ExH (X : Cx) (k : Nat) (nm : Str) (a : Addr) (d : Option Addr) (l : List (Addr × Obj)) : Prop where
  g : GoodH X k l
  ex : ∃ oe C r, l = (a, oe) :: r ∧ X.mg nm = some (.ref C) ∧ Zc (.ref C) d oe ∧ ∃ vs, oe.data = .fields vs
theorem GoodH.mono {X : Cx} {j k : Nat} {l : List (Addr × Obj)} (g : GoodH X k l) (h : j ≤ k) : GoodH X j l := ⟨g.hot, g.sub, g.rm.mono h, g.nd⟩
theorem FnP.mono {P : Program} {w : World} {K : Fg} {mg : Str → Option Value} {base : Heap} {CX : CXT} {j k : Nat} {f : Addr} {fd : FuncData} {ps : List Str} {sp : Sp} {l : List (Addr × Obj)} (F : FnP P w K mg base CX j f fd ps sp l) (h : j ≤ k) : FnP P w K mg base CX k f fd ps sp l :=
  ⟨F.len, fun A outer s H args us vs Q E hr => F.run A outer s H args us vs Q E (hr.mono h)⟩
/-! #### isinstance of what is handled -/
/-- of each of these classes: what isinstance asks -/
structure XIs (K : Fg) (mg : Str → Option Value) (cs : List Str) (D : Str) : Prop where
  ex : ∃ DA, mg D = some (.ref DA) ∧ ∀ nm ∈ cs, ∀ C, mg nm = some (.ref C) → PySem.W.kitOne K (.ref C) (.ref DA) = some (nm == D)
theorem sub_self {K : Fg} {C : Addr} {b : Bool} (h : PySem.W.selfFirst K C = true) (e : PySem.W.subIn K (.ref C) (.ref C) = some b) : b = true := by
  unfold PySem.W.selfFirst at h
  have e : PySem.W.mroIn K C (.ref C) = some b := e
  unfold PySem.W.mroIn at e
  cases hc : PySem.W.clsIn K C with
  | none => rw [hc] at h; cases h
  | some cd =>
    rw [hc] at h e
    have h : (cd.mro.head? == some (Value.ref C)) = true := h
    have e : (if cd.mro.isEmpty then none else some (cd.mro.contains (.ref C))) = some b := e
    have h := beq_iff_eq.mp h
    cases hm : cd.mro with
    | nil => rw [hm] at h; cases h
    | cons v r =>
      rw [hm] at h e
      cases h
      simp at e
      exact e
end Dl
/-! ### values: what may stand in a suite, in a def that is called there -/
namespace Dl
open PySem PySem.Spec PyProof.Rows L2
open LM (HotL)
variable [TabsC]
section
variable {X Y : Cx} {Wx : WX} {k : Nat} {a b c e o : Expr} {wa wb wc we wo : DEx} {pos p2 p apos : Pos} {ws : DA} {es : List Expr} {nm : Str} {q : Addr} {d : Option Addr} {l : List (Addr × Obj)}
theorem ExH.mem (x : ExH Y k nm q d l) : ∃ oe C, (q, oe) ∈ Y.pn ∧ Y.mg nm = some (.ref C) ∧ Zc (.ref C) d oe ∧ ∃ vs, oe.data = .fields vs := by
  obtain ⟨oe, C, r, e, h1, h2, h3⟩ := x.ex
  exact ⟨oe, C, x.g.sub _ (by rw [e]; exact List.mem_cons_self), h1, h2, h3⟩
/-! #### isinstance -/
/-- isinstance(e, D), e of the class nm -/
def dIsX (nm D : Str) (q : Addr) (d : Option Addr) (we : DEx) : DEx := fun Γ O R xe => we Γ O (fun x O1 => match x with
  | .o b d' fs => b = q ∧ d' = d ∧ R (.d (.bool (nm == D))) O1
  | _ => False) xe
def dIsV (q : Addr) (d : Option Addr) (we : DEx) : DEx := fun Γ O R xe => we Γ O (fun x O1 => match x with
  | .o b d' fs => b = q ∧ d' = d ∧ R (.d (.bool true)) O1
  | _ => False) xe
/-- isinstance(e, (D, ..)) -/
def dIsXT (nm : Str) (Ds : List Str) (q : Addr) (d : Option Addr) (we : DEx) : DEx := fun Γ O R xe => we Γ O (fun x O1 => match x with
  | .o b d' fs => b = q ∧ d' = d ∧ R (.d (.bool (Ds.contains nm))) O1
  | _ => False) xe
/-- the classes of a tuple -/
inductive ClsT (Y : Cx) (cs : List Str) : List Expr → List Str → List Addr → Prop
  | nil : ClsT Y cs [] [] []
  | cons {D : Str} {pD : Pos} {DA : Addr} {es : List Expr} {Ds : List Str} {As : List Addr} (T : XIs Y.K Y.mg cs D) (hD : Y.mg D = some (.ref DA)) (hg : Gl Y D) (hdb : (D == ("__debug__" : Str)) = false) (hs : starEach (.Name D pD :: es) Y.env = (false, eval (.Name D pD) Y.env) :: starEach es Y.env) (r : ClsT Y cs es Ds As) :
      ClsT Y cs (.Name D pD :: es) (D :: Ds) (DA :: As)
theorem ClsT.any {cs : List Str} {C : Addr} (hn : nm ∈ cs) (hC : Y.mg nm = some (.ref C)) : ∀ {es : List Expr} {Ds : List Str} {As : List Addr}, ClsT Y cs es Ds As → PySem.W.kitAny Y.K (.ref C) (As.map Value.ref) = some (Ds.contains nm)
  | _, _, _, .nil => rfl
  | _, _, _, .cons (D := D) (Ds := Ds) T hD hg hdb hs r => by
    obtain ⟨DA', hD', hk⟩ := T.ex
    rw [hD] at hD'
    cases hD'
    have h1 := hk nm hn C hC
    have h2 := r.any hn hC
    rw [List.map_cons]
    unfold PySem.W.kitAny
    rw [h1]
    rw [List.contains_cons]
    cases z : (nm == D) with
    | true => rfl
    | false => exact h2
/-! #### e.f where e is of the class C0 -/
/-! #### a def that is called there -/
end
end Dl
/-! ### values: a comprehension along zip while an exception is handled; tries of several clauses -/
namespace Dl
open PySem PySem.Spec PyProof.Rows L2
open LM (HotL)
variable [TabsC]
/-- a list of data, as it stands: data, or a cell while it stays -/
def snapW (x : W) (O : Oh) : Option (List PyData × (Oh → Prop)) := match x with
  | .d (.list ds) => some (ds, fun _ => True)
  | .c k => match O[k]? with
    | some (.lst ws) => match datas ws with
      | some ds => some (ds, fun O' => O'[k]? = some (.lst ws))
      | none => none
    | _ => none
  | _ => none
def Snap (K : Fg) (mg : Str → Option Value) (a : Addr) (G0 : Hp) (α0 : Al) (ds : List PyData) (ok : Oh → Prop) : Prop := ∀ (G : Hp) (α : Al) (O : Oh) (H : Hp), Ex G0 G → α0.as <+: α.as → Rel K mg G α O H → ok O → ∃ vs, SqL K H a vs ∧ RpL K G vs ds
theorem snapW_ok {K : Fg} {mg : Str → Option Value} {G : Hp} {α : Al} {O : Oh} {H : Hp} {v : V} {x : W} {ds : List PyData} {ok : Oh → Prop} (rel : Rel K mg G α O H) (r : Rv K G α v x) (h : snapW x O = some (ds, ok)) : ∃ a, v = .ref a ∧ ok O ∧ Snap K mg a G α ds ok := by
  unfold snapW at h
  split at h
  · next es =>
    cases h
    cases r with
    | lst hs ha => exact ⟨_, rfl, trivial, fun G' α' O' H' e p rel' _ => ⟨_, rel'.ex.sqL (e.sqL (SqL.of hs)), RpL.mono e ha⟩⟩
  · next k =>
    split at h
    · next ws ek =>
      split at h
      · next es ed =>
        cases h
        obtain ⟨a, ha, rfl⟩ := r
        refine ⟨a, rfl, ek, fun G' α' O' H' e p rel' ok => ?_⟩
        obtain ⟨_, vs, hH, rl⟩ := rel'.at_ k a _ (pre_get' p ha) ok
        rw [datas_eq ed] at rl
        exact ⟨vs, SqL.of hH, rl.toD⟩
      · cases h
    · cases h
  · cases h
def dZipL (ws : DA) : DI := fun Γ O S xe => ws Γ O (fun xs O1 => match xs with
  | [x, y] => match snapW x O1, snapW y O1 with
    | some (ds, ok), some (es, ok') => S (zipW ds es) (fun O => ok O ∧ ok' O) O1
    | _, _ => False
  | _ => False) xe
theorem sim_zipL {K : Fg} {mg : Str → Option Value} {G0 : Hp} {α0 : Al} {a b : Addr} {ds es : List PyData} {ok ok' : Oh → Prop} (h : Snap K mg a G0 α0 ds ok) (h' : Snap K mg b G0 α0 es ok') : Sim K mg (Itz K a b) G0 α0 (zipW ds es) fun O => ok O ∧ ok' O := by
  intro i G α O H e p rel oo
  obtain ⟨vs, qx, r⟩ := h G α O H e p rel oo.1
  obtain ⟨us, qy, r'⟩ := h' G α O H e p rel oo.2
  have l1 := r.length
  have l2 := r'.length
  refine ⟨fun hi => ⟨vs, us, qx, qy, by rw [zipW_len] at hi; omega⟩, fun w hw => ?_⟩
  have hi := (List.getElem?_eq_some_iff.mp hw).1
  rw [zipW_len] at hi
  obtain ⟨d, hd⟩ : ∃ d, ds[i]? = some d := ⟨_, List.getElem?_eq_getElem (by omega)⟩
  obtain ⟨f, hf⟩ : ∃ f, es[i]? = some f := ⟨_, List.getElem?_eq_getElem (by omega)⟩
  rw [zipW_get ds es i d f hd hf] at hw
  cases hw
  obtain ⟨v, hv, rv⟩ := r.get hd
  obtain ⟨u, hu, ru⟩ := r'.get hf
  refine ⟨⟨vs, us, v, u, qx, qy, hv, hu⟩, fun x H' y => ?_⟩
  obtain ⟨T, z, z', rfl, hT, rfl, hz, hz'⟩ := y
  have hz := hz vs qx
  have hz' := hz' us qy
  rw [hv] at hz
  cases hz
  rw [hu] at hz'
  cases hz'
  have gT := rel.ex.free hT
  exact ⟨_, Ex.new gT, rel.lay hT, rp_pair upd_same (rv.mono (Ex.new gT)) (ru.mono (Ex.new gT))⟩
section
variable {X Y : Cx} {Wx : WX} {k : Nat} {a b c e o : Expr} {wa wb wc we wo : DEx} {pos p2 p apos : Pos} {ws : DA} {es : List Expr} {nm : Str} {q : Addr} {d : Option Addr} {l : List (Addr × Obj)}
theorem di_zipL {p pos tpos : Pos} {elts : List Expr} {kk : Nat} (hm : Y.mg "zip" = none) (ha : DAs Y Wx [a, b] ws) (hg : Gl Y "zip" := by rfl) (hs : starEach [a, b] Y.env = (false, eval a Y.env) :: starEach [b] Y.env := by rfl) (hpl : (backTo pos (starEach [b] Y.env)).any (·.1) = false := by rfl) :
    DIt Y Wx (.Tuple elts kk tpos) (.Call (.Name "zip" p) [a, b] [] pos) (dZipL ws) := by
  refine pi_imp (fun σ H R ⟨G, α, Γ, O, S, xe, sl, rel, h, xp, q⟩ => ?_) (pi_zip hg hm ha hs hpl)
  refine ⟨G, α, Γ, O, _, xe, sl, rel, h, fun x O1 h1 v G1 α1 H1 e1 p1 rel1 r1 => ?_, xp⟩
  dsimp only at h1
  split at h1
  · next x y =>
    split at h1
    · next ds ok es ok' ex ey =>
      obtain ⟨u, u', rfl, ru, ru'⟩ := rv2 r1
      obtain ⟨a, rfl, oa, sa⟩ := snapW_ok rel1 ru ex
      obtain ⟨b, rfl, ob, sb⟩ := snapW_ok rel1 ru' ey
      obtain ⟨xs, qx, _⟩ := sa _ _ _ _ (Ex.refl _) (List.prefix_refl _) rel1 oa
      obtain ⟨ys, qy, _⟩ := sb _ _ _ _ (Ex.refl _) (List.prefix_refl _) rel1 ob
      exact ⟨a, b, xs, ys, rfl, qx, qy, q _ _ _ h1 _ _ _ _ e1 p1 rel1 (sim_zipL sa sb)⟩
    · exact h1.elim
  · exact h1.elim
end
/-! #### try .. except .. except .. else -/
/-- a clause: which classes it takes, the name's slot, the suite by the class, the place and the dict of what is handled -/
abbrev HK := List (Str × Bool) × Option Nat × (Str → Addr → Option Addr → DSt)
def endsK (i : Option Nat) (D : DEnds) : DEnds := match i with
  | none => D
  | some i => { D with nx := fun Γ1 O1 => D.nx (Γ1.set i none) O1, bk := fun Γ1 O1 => D.bk (Γ1.set i none) O1, ct := fun Γ1 O1 => D.ct (Γ1.set i none) O1 }
def nameK (i : Option Nat) (Γ : Gm) (w : W) : Gm := match i with
  | none => Γ
  | some i => Γ.set i (some w)
def dHs : List HK → DEnds → DX → Exn → Gm → Oh → Prop
  | [], _, xe, ex, Γ, O => xe ex Γ O
  | (subs, i, s) :: r, D, xe, ex, Γ, O => match subs.lookup ex.cls with
    | some true => ∀ a d, s ex.cls a d (endsK i D) X0 (nameK i Γ (.o a d ex.fs)) O
    | some false => dHs r D xe ex Γ O
    | none => False
def dTryK (hs : List HK) (body els : DSt) : DSt := fun D xe Γ O => body { D with nx := els D xe } (dHs hs D xe) Γ O
end Dl
/-! ### x not in a list of texts, x an empty dict -/
namespace Dl
open PySem PySem.Spec PyProof.Rows L2
variable [TabsC]
def rNiEL (K : Fg) : R2 := fun x y H Q => ∃ (a l : Addr) (ob : Obj) (ss : List Str), x = .ref a ∧ y = .ref l ∧ H a = some (.frz ob (.dK [])) ∧ SqL K H l (ss.map V.str) ∧ Q (.bl true) H
theorem op_ni_EL {X : Cx} (hu : X.A.units + 100 < cLine) : OpR X (compareOp .NotIn) (rNiEL X.K) := by
  intro pins s σ H x y v u Q I rx ry h
  obtain ⟨a, l, ob, ss, rfl, rfl, ha, hl, q⟩ := h
  cases rx
  cases ry
  obtain ⟨its, rv, pl, hz⟩ := I.list hl
  obtain ⟨_, hg, hx, es, ep, vs, hdt, _⟩ := I.frzK ha
  refine PySem.SeqAt.notIn_listAt (fun _ => false) pl.isList (fun y hy => ?_) ?_
  · obtain ⟨i, hi, e⟩ := List.getElem_of_mem (show y ∈ its by simpa using hy)
    obtain ⟨z, hz1, r⟩ := paired_getR rv (i := i) (by rw [List.getElem?_eq_getElem hi, e])
    rw [List.getElem?_map] at hz1
    cases hs : ss[i]? with
    | none => rw [hs] at hz1; cases hz1
    | some b =>
      rw [hs] at hz1
      cases hz1
      obtain ⟨t, rfl⟩ := r
      exact eqAt_str_dict b t hg hx.1 hdt (by show X.A.units + 1 < cLine; omega)
  · refine ⟨.bl true, H, I, ?_, q⟩
    show Value.bool _ = Value.bool true
    congr 1
    simp
def dNiL : D2 := fun x y O R => match x, y with
  | .d (.dict []), .d (.list ds) => (match strsD ds with
    | some _ => R (.d (.bool true)) O
    | none => False)
  | x, y => dIn2 true x y O R
theorem s_niL {K : Fg} {mg : Str → Option Value} : OpS K mg dNiL (fun x y H Q => rNiEL K x y H Q ∨ rInS2 true x y H Q ∨ rInDk true x y H Q ∨ rInAny K true x y H Q) := by
  intro G α O H x y u v R Q rel r1 r2 h p
  unfold dNiL at h
  split at h
  · next ds =>
    split at h
    · next ss es =>
      have r1 : Rp K G u (.dict []) := r1
      have r2 : Rp K G v (.list ds) := r2
      cases r1 with
      | dk hg hk =>
        cases hk
        cases r2 with
        | lst sq ra =>
          rw [strsD_eq es] at ra
          obtain ⟨ev, _⟩ := rpL_strs_inv ra
          subst ev
          exact .inl ⟨_, _, _, ss, rfl, rfl, rel.ex _ _ hg, SqL.of (rel.ex _ _ sq), p.here h rel (show Rp K G _ (.bool true) from .bl true)⟩
    · exact h.elim
  · exact .inr (s_in2 _ _ _ _ _ _ _ _ _ _ rel r1 r2 h p)
theorem op_niL {X : Cx} {Wx : WX} {k : Nat} (g : Good X Wx k) : OpR X (compareOp .NotIn) (fun x y H Q => rNiEL X.K x y H Q ∨ rInS2 true x y H Q ∨ rInDk true x y H Q ∨ rInAny X.K true x y H Q) := or_op (op_ni_EL (hu100 g.rm)) (op_notin5 g)
end Dl
namespace Dl
open PySem PySem.Spec PyProof.Rows L2
variable [TabsC]
/-! ### instances: fields, methods, making -/
theorem RK.get {K : Fg} {G : Hp} {α : Al} {f : Str} {w : W} : ∀ {es : List (Str × V)} {fs : List (Str × W)}, RK K G α es fs → fs.lookup f = some w → ∃ v, es.lookup f = some v ∧ Rv K G α v w
  | _, _, .nil, h => by cases h
  | (a, v) :: es, (b, w') :: fs, .cons r t, h => by
    obtain ⟨e, rv⟩ := r
    have e : a = b := e
    subst e
    rw [List.lookup_cons] at h ⊢
    cases z : f == a with
    | true =>
      rw [z] at h
      cases h
      exact ⟨v, rfl, rv⟩
    | false =>
      rw [z] at h
      exact RK.get t h
def putFW (f : Str) (v : W) : List (Str × W) → List (Str × W)
  | [] => [(f, v)]
  | (g, x) :: r => if g = f then (g, v) :: r else (g, x) :: putFW f v r
section
variable {X : Cx} {Wx : WX} {k : Nat} {o e value : Expr} {f m C : Str} {pos pos' apos p : Pos} {w wa wv : DEx} {fl ps : List Str} {es : List Expr} {ws : DA} {df : DFn}
/-- o.f -/
def dFld (C f : Str) (w : DEx) : DEx := fun Γ O R xe => w Γ O (fun x O1 => match x with
  | .c j => (match O1[j]? with
    | some (.ins C' fs) => (match fs.lookup f with
      | some v => C' = C ∧ R v O1
      | none => False)
    | _ => False)
  | _ => False) xe
/-- o.f = value -/
def dSetF (C f : Str) (wa wv : DEx) : DSt := fun D xe Γ O => wv Γ O (fun y O1 => wa Γ O1 (fun x O2 => match x with
  | .c j => (match O2[j]? with
    | some (.ins C' fs) => C' = C ∧ fs.length < 1000 ∧ D.nx Γ (O2.set j (.ins C (putFW f y fs)))
    | _ => False)
  | _ => False) xe) xe
/-! #### methods -/
/-- o.m(e, ..) -/
def dMeth (C m : Str) (f : DFn) (wa : DEx) (ws : DA) : DEx := fun Γ O R xe => wa Γ O (fun x O1 => match x with
  | .c j => (match O1[j]? with
    | some (.ins C' fs) => (match fs.lookup m with
      | some _ => False
      | none => C' = C ∧ ws Γ O1 (fun vs O2 => f (.c j :: vs) O2 R fun ex O3 => xe ex Γ O3) xe)
    | _ => False)
  | _ => False) xe
/-! #### making -/
/-- C(e, ..) -/
def dMake (C : Str) (f : DFn) (ws : DA) : DEx := fun Γ O R xe => ws Γ O (fun vs O1 => f (.c O1.length :: vs) (O1 ++ [.ins C []]) (fun r O2 => match r with
  | .d .none => R (.c O1.length) O2
  | _ => False) fun ex O2 => xe ex Γ O2) xe
end
/-! #### a def all cells of which stay -/
end Dl
namespace Dl
open PySem PySem.Spec PyProof.Rows L2
variable [TabsC]
/-! ### a list of tuples that are keys, made along a walk: it may change -/
abbrev KP (G : Hp) (v : V) (ks : List Key) : Prop := ks.all keyOk = true ∧ ∃ a, v = .ref a ∧ G a = some (.tup (ks.map kV))
abbrev KPs (G : Hp) (vs : List V) (kss : List (List Key)) : Prop := Paired (fun v ks => KP G v ks) vs kss
theorem KPs.mono {G G' : Hp} (e : Ex G G') : ∀ {vs : List V} {kss : List (List Key)}, KPs G vs kss → KPs G' vs kss
  | _, _, .nil => .nil
  | _, _, .cons ⟨h, a, e1, e2⟩ t => .cons ⟨h, a, e1, e a _ e2⟩ (KPs.mono e t)
theorem KPs.snoc {G : Hp} {v : V} {ks : List Key} (h : KP G v ks) : ∀ {vs : List V} {kss : List (List Key)}, KPs G vs kss → KPs G (vs ++ [v]) (kss ++ [ks])
  | _, _, .nil => .cons h .nil
  | _, _, .cons r t => .cons r (KPs.snoc h t)
theorem KPs.length {G : Hp} {vs : List V} {kss : List (List Key)} (h : KPs G vs kss) : vs.length = kss.length := Paired.length h
variable {X : Cx} {Wx : WX} {k : Nat} {pos : Pos}
def lcGoK (ok : Oh → Prop) (t : Tg) (tt : DT) (we : DEx) (Γ : Gm) (fin : List (List Key) → Oh → Prop) : List W → List (List Key) → Oh → Prop
  | [], acc, O => ok O ∧ fin acc O
  | x :: r, acc, O => ok O ∧ t.put x Γ fun Γ1 => tt Γ1 O (fun b O1 => if b = true then we Γ1 O1 (fun y O2 => match y with
      | .k z => acc.length < 1000000 ∧ lcGoK ok t tt we Γ fin r (acc ++ [z]) O2
      | _ => False) X0 else lcGoK ok t tt we Γ fin r acc O1) X0
/-- [e for t in w if tt], e a tuple that is a key -/
def dLcK (w : DI) (t : Tg) (tt : DT) (we : DEx) (own : List Nat) : DEx := fun Γ O R xe => w Γ O (fun xs ok O1 => lcGoK ok t tt we (wipeG Γ own) (fun acc O2 => R (.c O2.length) (O2 ++ [.lst (acc.map W.k)])) xs [] O1) xe
end Dl
/-! ### len of a dict with tuples as keys -/
/-! ### d != {} -/
/-! ### dict(zip(d, xs)) over a dict d -/
/-! ### a def that is called with no guards about: the law itself (for repr) -/
namespace Dl
open PySem PySem.Spec PyProof.Rows L2
variable [TabsC]
structure FnOkG (P : Program) (w : World) (K : Fg) (mg : Str → Option Value) (base : Heap) (CX : CXT) (k : Nat) (f : Addr) (fd : FuncData) (ps : List Str) (sp : Sp) : Prop where
  len : ∀ (vs : List V) (H : Hp) (Q : VK) (E : XK), sp vs H Q E → vs.length = ps.length
  run : ∀ (A : Around) (outer : List Env) (s : Shared) (H : Hp) (args : Args) (us : List Value) (vs : List V) (Q : VK) (E : XK), A.guards = some [] → Room k A → Env0 P w K mg base A outer s H → BindsTo s fd args (ps.zip us) → Vals vs us → sp vs H Q E → codeAny (model P w) A (Code.call (Value.ref f) args) (CR CX outer P w H s Q E) s
end Dl
/-! ### repr(x), x None, a tuple or a list of data, where no guards are about -/
namespace Dl
open PySem PySem.Spec PyProof.Rows L2
variable [TabsC]
theorem FnOkG.imp {P : Program} {w : World} {K : Fg} {mg : Str → Option Value} {base : Heap} {CX : CXT} {k : Nat} {f : Addr} {fd : FuncData} {ps : List Str} {sp sp' : Sp} (h : FnOkG P w K mg base CX k f fd ps sp) (g : ∀ (vs : List V) (H : Hp) (Q : VK) (E : XK), sp' vs H Q E → sp vs H Q E) : FnOkG P w K mg base CX k f fd ps sp' :=
  ⟨fun vs H Q E q => h.len vs H Q E (g vs H Q E q), fun A outer s H args us vs Q E hg hr e hb r q => h.run A outer s H args us vs Q E hg hr e hb r (g vs H Q E q)⟩
end Dl
/-! ### sorted(xs, key=lambda row: row[:2]), xs tuples that differ in the two texts at their heads: as a lambda is made, and called -/
namespace Dl
open PySem PySem.Spec PyProof.Rows L2 HT LamX
variable [TabsC]
/-- a lambda is made: the table of code objects is as it was, or has one more -/
theorem lam_mk {X : L2.Cx} {pins : List (Addr × Obj)} {σ : L2.St} {H : L2.Hp} {s : Shared} {c P : Addr} {ps : Array Value} {params : Arguments} {body : Expr} {scope : Scope} {pos : Pos} {E Q : Value → Shared → Prop}
    (I : L2.Inv X pins σ H s) (TB : TabB X.base X.mg c P) (hcode : X.env.code = .ref c) (hP : H P = some (.tbl ps)) (ht : TriplesOk ps.toList) (ha : ∀ (pos : Pos) (cv : Value), codeAmong pos ps.toList = some cv → ∃ c', cv = .ref c' ∧ H c' = some (CodeO c' (X.env.qual ++ "<lambda>")))
    (hdef : defaultsOf params X.env = ([], [])) (hfree : ∀ y ∈ scope.names, y.2 = NameKind.free → ∃ c, List.lookup y.1 X.env.cells = some c)
    (h : ∀ (f c' : Addr) (pm ctv : Value) (H1 : L2.Hp) (s' : Shared), L2.Inv X pins σ H1 s' →
      (H1 = H ∧ H c' = some (CodeO c' (X.env.qual ++ "<lambda>")) ∨ H c' = none ∧ codeAmong pos ps.toList = none ∧ H1 = upd (upd H P (.tbl (ps ++ #[rawInt ↑pos.line, rawInt ↑pos.col, .ref c']))) c' (CodeO c' (X.env.qual ++ "<lambda>"))) →
      s'.heap.get? f = some (W.kla_obj "<lambda>" (X.env.qual ++ "<lambda>") params body scope (cloFrom X.env.cells scope.names []) pm c' ctv) → H1 f = none → ¬f ∈ frs X.stack → Q (.ref f) s') :
    wpAny (model X.prog X.w) X.A (eval (.Lambda params body scope pos) X.env) Q E s := by
  have bP := Heap.BuiltinsAt.keeps TB.bm I.bk
  have hP' := I.hok P (.tbl ps) hP
  have nofr : ∀ f : Addr, s.heap.objs.size ≤ f → ¬f ∈ frs X.stack := fun f hf z => by
    rcases List.mem_cons.mp (I.stkSub f z) with e | e
    · have h1 := I.lt
      subst e
      exact Nat.lt_irrefl _ (Nat.lt_of_lt_of_le h1 hf)
    · exact I.nofs hf e
  refine W.kla_eval hdef ?_
  cases hc : codeAmong pos ps.toList with
  | none =>
    refine W.kla_makeFunction (closure_ok hfree) I.ok.glob (I.mod.glob.keeps I.bk) hcode (W.CodeHd.keeps TB.code I.bk) hP' ht hc TB.gP bP fun c' ctv h' tk hx hge hlt hrec htb => ?_
    obtain ⟨c2, oc, vs, t, e2, hoc, hd, hv⟩ := hrec
    cases e2
    have hsz : s.heap.objs.size ≤ h'.objs.size := Nat.le_trans hge (Nat.le_of_lt hlt)
    have nC : H c' = none := I.hok.fresh hge
    have up : ∀ {b : Addr} {o : Obj} {n : Obj}, h'.get? b = some o → (h'.push n).get? b = some o := fun e => Heap.get?_push_of_some _ e
    have I1 := inv_table (t' := tk) I hP (fun b o hb e => up (n := W.kla_obj "<lambda>" (X.env.qual ++ "<lambda>") params body scope (cloFrom X.env.cells scope.names []) ((X.mg "__name__").getD .none) c' ctv) (hx b o hb e)) (up htb) hge ⟨oc, vs, t, up hoc, hd, hv⟩
    refine h h'.objs.size c' _ ctv _ _ I1 (.inr ⟨nC, hc, rfl⟩) (Heap.get?_push_size h' rfl) ?_ (nofr _ hsz)
    have n1 : h'.objs.size ≠ c' := Nat.ne_of_gt hlt
    have n2 : h'.objs.size ≠ P := Nat.ne_of_gt (Nat.lt_of_lt_of_le (Heap.lt_size hP') hsz)
    rw [upd_ne n1, upd_ne n2]
    exact I.hok.fresh hsz
  | some cv =>
    obtain ⟨c', rfl, hco⟩ := ha pos cv hc
    refine W.kla_makeFunctionHit (closure_ok hfree) I.ok.glob (I.mod.glob.keeps I.bk) hcode (W.CodeHd.keeps TB.code I.bk) hP' ht hc bP fun ctv h' tk hx hsz => ?_
    have I1 := I.kept (t' := tk) fun b o e => Heap.get?_push_of_some (W.kla_obj "<lambda>" (X.env.qual ++ "<lambda>") params body scope (cloFrom X.env.cells scope.names []) ((X.mg "__name__").getD .none) c' ctv) (hx b o e)
    exact h h'.objs.size c' _ ctv H _ I1 (.inl ⟨rfl, hco⟩) (Heap.get?_push_size h' rfl) (I.hok.fresh hsz) (nofr _ hsz)
/-- what such a lambda must be: one name, no more -/
structure LamOk (params : Arguments) (scope : Scope) (x : Str) : Prop where
  bind : ∀ (q : Str) (body : Expr) (cl : List (Str × Addr)) (pm cdv ct v : Value), bindArgs (W.kla_fn "<lambda>" q params body scope cl pm cdv ct) ⟨[v], []⟩ = pure [(x, v)]
  cell : ∀ y : Str × NameKind, y ∈ scope.names → y.2 ≠ NameKind.cell
  free : ∀ y : Str × NameKind, y ∈ scope.names → y.2 ≠ NameKind.free
  loc : List.lookup x scope.names = some NameKind.local
  co : scope.isCoroutine = false
  gen : scope.isGenerator = false
  kind : scope.kind = ScopeKind.function
  db : (x == ("__debug__" : Str)) = false
  kd : ∀ (L : Addr) (cl : List (Str × Addr)) (q : Str) (f : Option Addr) (c : Value), (newEnv scope L mainGlobals cl q f c none builtinsNs).kindOf x = some NameKind.local
theorem wpAny_two {prog : Program} {w : World} {A : Around} {E : Value → Shared → Prop} {s : Shared} {env : Env} {x : Str} {p1 p2 p3 p4 : Pos} {k : Nat} {m : Str → Option Value} {l : Addr} {its : Array Value} {Q : Value → Shared → Prop}
    (hk : env.scope.kind = ScopeKind.function) (hl : env.kindOf x = some NameKind.local) (hn : s.heap.Ns env.locals m) (hx : m x = some (.ref l)) (hdb : (x == ("__debug__" : Str)) = false)
    (ht : IsTup s.heap l its) (h2 : 2 ≤ its.size) (hz : its.size ≤ sizeLine)
    (h : ∀ (h' : Heap) (tk : Tok) (v : Value), (∀ (b : Addr) (o : Obj), s.heap.get? b = some o → h'.get? b = some o) → (∃ a its', v = .ref a ∧ IsTup h' a its' ∧ its'.toList = its.toList.take 2) → Q v { heap := h', gens := s.gens, drawn := s.drawn, toks := tk, os := s.os }) :
    wpAny (model prog w) A (eval (.Subscript (.Name x p1) (.Slice none (some (.Constant (.int 2) k p2)) none p3) p4) env) Q E s := by
  refine Subscript_ (wpAny_Name (wpAny_loadName_local hk hl hn hx ?_) hdb)
  refine wpAny_Slice ?_
  refine wpAny_pure (wpAny_Constant_int (k := k) (pos := p2) (wpAny_pure ?_))
  have up : ∀ (n : Obj) (b : Addr) (o : Obj), s.heap.get? b = some o → (s.heap.push n).get? b = some o := fun n b o e => Heap.get?_push_of_some _ e
  obtain ⟨o, ho, hc, n, hd⟩ := id ht
  have ht2 : IsTup (s.heap.push { cls := .type "slice", data := .fields #[.none, .int 2 s.toks, .none] }) l its := ⟨o, up _ _ _ ho, hc, n, hd⟩
  refine tail_any (ops := [.ref s.heap.objs.size, .ref l]) ht2.typeIs (PyProof.Rows.slot_tuple_getitem.lookup) ?_ rfl
  have hs := Heap.IsSliceOf.new s.heap .none (.int 2 s.toks) .none
  by_cases z : its.size = 2
  · refine getItem_tuple_whole ht2 hs .none (.int 2 _) ⟨rfl, ?_⟩ ?_
    · show min (2 : Int).toNat its.size = its.size
      rw [z]; rfl
    · refine h _ _ _ (up _) ⟨l, its, rfl, ht2, ?_⟩
      rw [List.take_of_length_le (by rw [Array.length_toList, z]; exact Nat.le_refl _)]
  · refine getItem_tuple_cut ht2 hs .none (.int 2 _) (fun q => ?_) ?_ hz
    · have q2 : min (2 : Int).toNat its.size = its.size := q.2
      have : (2 : Int).toNat = 2 := rfl
      omega
    · refine h _ _ _ (fun b o e => Heap.get?_push_of_some _ (up _ b o e)) ⟨_, _, rfl, IsTup.new _ _, ?_⟩
      have e1 : sIx its.size its.size (some 2) = 2 := by show min (2 : Int).toNat its.size = 2; have : (2 : Int).toNat = 2 := rfl; omega
      have e2 : sIx its.size 0 none = 0 := rfl
      rw [e1, e2]
      rfl
theorem key_call {prog : Program} {w : World} {A : Around} {h : Heap} {s : Shared} {f c' l : Addr} {q x : Str} {params : Arguments} {scope : Scope} {cl : List (Str × Addr)} {pm ctv : Value} {p1 p2 p3 p4 : Pos} {k tk : Nat} {its : Array Value} {d : PyData}
    (ok : LamOk params scope x) (hdp : A.depth < recursionLimit) (nl : h.NoLimit)
    (hf : h.get? f = some (W.kla_obj "<lambda>" q params (.Subscript (.Name x p1) (.Slice none (some (.Constant (.int 2) k p2)) none p3) p4) scope cl pm c' ctv)) (hr : h.CodeRec (.ref c') q)
    (ht : IsTup h l its) (hz : its.size ≤ sizeLine) (hd : ∃ (a b : Value) (r : List Value) (y z : PyData), its.toList = a :: b :: r ∧ Reads h a y [] ∧ Reads h b z [] ∧ d = .tuple [y, z]) :
    wpAny (model prog w) A (call (.ref f) [.ref l]) (W.KeyPure d { heap := h, gens := s.gens, drawn := s.drawn, toks := tk, os := s.os }) (fun _ _ => False) { heap := h, gens := s.gens, drawn := s.drawn, toks := tk, os := s.os } := by
  refine wpAny_call ?_
  refine W.kla_callFunE hdp hf rfl ok.co ok.gen rfl hr ?_
  rw [ok.bind]
  refine wpAny_pure ?_
  refine wpAny_newFunctionEnv ok.cell (fun y hy => ?_) (fun h₁ hns hsb => ⟨nl.fresh _ hsb, ?_⟩) ok.kind
  · rw [List.mem_singleton.mp hy]; exact ok.loc
  · refine W.kla_codeExpr ?_
    have hk₁ : ∀ (b : Addr) (o : Obj), h.get? b = some o → h₁.get? b = some o := fun b o e => Heap.SameBut.extBut hsb b o (Nat.ne_of_lt (Heap.lt_size e)) (Heap.get?_push_of_some _ e)
    obtain ⟨o, ho, hc, n, hdd⟩ := id ht
    obtain ⟨a, b, r, y, z, e1, ra, rb, rfl⟩ := hd
    have h2 : 2 ≤ its.size := by
      have : its.toList.length = _ := congrArg List.length e1
      rw [Array.length_toList] at this
      simp at this; omega
    refine wpAny_two (l := l) (its := its) ok.kind (ok.kd _ _ _ _ _) hns (by simp) ok.db ⟨o, hk₁ _ _ ho, hc, n, hdd⟩ h2 hz fun h' tk' v hx hv => ?_
    obtain ⟨t, its', rfl, ⟨o', ho', hc', n', hd'⟩, e2⟩ := hv
    refine ⟨h', tk', rfl, fun b o e => hx _ _ (hk₁ _ _ e), .tuple ho' hc' hd' ?_⟩
    rw [e2, e1]
    have kp : ∀ (b : Addr) (o : Obj), h.get? b = some o → h'.get? b = some o := fun b o e => hx _ _ (hk₁ _ _ e)
    exact .cons (PyProof.Rows.Reads.keeps kp ra) (.cons (PyProof.Rows.Reads.keeps kp rb) .nil)
section
variable {K : Fg} {mg : Str → Option Value} {G : Hp} {α : Al} {O : Oh} {H : Hp}
/-- a table of code objects has one more -/
theorem Rel.tabbed {P c' : Addr} {q : Str} {ps ps' : Array Value} (R : Rel K mg G α O H) (hm : (P, q) ∈ TabsC.T) (hu : ∀ p ∈ TabsC.T, p.1 = P → p.2 = q) (hP : H P = some (.tbl ps)) (nC : H c' = none) (ht : TriplesOk ps'.toList)
    (ha : ∀ (pos : Pos) (cv : Value), codeAmong pos ps'.toList = some cv → codeAmong pos ps.toList = some cv ∨ cv = .ref c') : Rel K mg G α O (upd (upd H P (.tbl ps')) c' (CodeO c' q)) := by
  obtain ⟨gP, oP, ps0, h0, _, hold⟩ := R.tb (P, q) hm
  have gP : G P = none := gP
  have h0 : H P = some (.tbl ps0) := h0
  rw [hP] at h0
  cases h0
  have gC : G c' = none := R.ex.free nC
  have keep : ∀ {b : Addr} {u : HO}, H b = some u → b ≠ P → upd (upd H P (.tbl ps')) c' (CodeO c' q) b = some u := fun e n => by rw [upd_ne (ne_of_none e nC), upd_ne n]; exact e
  have off1 : c' ∉ α.as := fun z => by
    obtain ⟨u, e⟩ := R.liv c' z
    rw [nC] at e; cases e
  have off2 : ∀ p ∈ α.hid, p.1 ≠ c' := fun p hp z => by
    have := (R.hd p hp).1
    rw [z, nC] at this; cases this
  have offC : Off α c' := ⟨off1, off2⟩
  refine ⟨fun b u e => keep (R.ex b u e) fun z => ?_, R.len, R.nd, fun a ha' => ?_, fun k a c h1 h2 => ?_, fun p hp => ?_, fun p hp => ?_⟩
  · rw [z, gP] at e; cases e
  · obtain ⟨u, e⟩ := R.liv a ha'
    exact ⟨u, keep e fun z => oP.1 (z ▸ ha')⟩
  · have na : a ≠ P := fun z => oP.1 (z ▸ List.mem_of_getElem? h1)
    exact (R.at_ k a c h1 h2).mono (Ex.refl _) (Pre.refl _) id (fun b hb z1 z2 => ⟨z1, z2, keep hb fun z => by rw [z, hP] at hb; cases hb⟩) fun o z => keep z na
  · obtain ⟨q1, q2, q3, q4⟩ := R.hd p hp
    exact ⟨keep q1 (oP.2 p hp), q2, q3, q4⟩
  · by_cases hb : p.1 = P
    · have eq := hu p hp hb
      obtain ⟨p1, p2⟩ := p
      have hb : p1 = P := hb
      have eq : p2 = q := eq
      subst hb eq
      refine ⟨gP, oP, ps', ?_, ht, fun pos cv hc => ?_⟩
      · show upd (upd H p1 (.tbl ps')) c' (CodeO c' p2) p1 = _
        rw [upd_ne (ne_of_none hP nC), upd_same]
      · rcases ha pos cv hc with z | z
        · obtain ⟨c, e, h4, h5⟩ := hold pos cv z
          exact ⟨c, e, keep h4 fun z => by rw [z, hP] at h4; exact codeO_ne _ (Option.some.inj h4).symm, h5⟩
        · exact ⟨c', z, upd_same, offC⟩
    · obtain ⟨g, o, ps1, a1, a2, a3⟩ := R.tb p hp
      refine ⟨g, o, ps1, keep a1 hb, a2, fun pos cv hc => ?_⟩
      obtain ⟨c, e, h4, h5⟩ := a3 pos cv hc
      exact ⟨c, e, keep h4 fun z => by rw [z, hP] at h4; exact codeO_ne _ (Option.some.inj h4).symm, h5⟩
end
def lam2 (params : Arguments) (scope : Scope) (x : Str) (p1 p2 p3 p4 : Pos) (k : Nat) (lp : Pos) : Expr := .Lambda params (.Subscript (.Name x p1) (.Slice none (some (.Constant (.int 2) k p2)) none p3) p4) scope lp
def kd2 (d : PyData) : PyData := .tuple [.str (k2 d).1, .str (k2 d).2]
theorem toks2 (a b : Str) : PySem.W.keyToks (.tuple [.str a, .str b]) = [.inl 1, .inr a.cps.toList, .inl 1, .inr b.cps.toList, .inl 0] := by
  simp [PySem.W.keyToks, PySem.W.keyToksAll]
theorem lt_toks2 (p q : Str × Str) : PyProof.Rows.lexLt PyProof.Rows.itemOrd [.inl 1, .inr p.1.cps.toList, .inl 1, .inr p.2.cps.toList, .inl 0] [.inl 1, .inr q.1.cps.toList, .inl 1, .inr q.2.cps.toList, .inl 0] = O2.blt (tok2 p) (tok2 q) := by
  have e1 : O2.blt (tok2 p) (tok2 q) = ((PyProof.Rows.strKind).blt p.1.cps.toList q.1.cps.toList || (!(PyProof.Rows.strKind).blt q.1.cps.toList p.1.cps.toList && PyProof.Rows.lexLt (PyProof.Rows.strKind).toKeyOrd [p.2.cps.toList] [q.2.cps.toList])) := PyProof.Rows.lex_cons _ _ _ _
  have e2 : PyProof.Rows.lexLt (PyProof.Rows.strKind).toKeyOrd [p.2.cps.toList] [q.2.cps.toList] = (PyProof.Rows.strKind).blt p.2.cps.toList q.2.cps.toList := by
    rw [PyProof.Rows.lex_cons]
    show (PyProof.Rows.strKind.blt _ _ || (!PyProof.Rows.strKind.blt _ _ && false)) = _
    simp
  rw [e1, e2]
  have L1 : ∀ (x : Int ⊕ List Nat) (r r' : List (Int ⊕ List Nat)), PyProof.Rows.lexLt PyProof.Rows.itemOrd (x :: r) (x :: r') = PyProof.Rows.lexLt PyProof.Rows.itemOrd r r' := fun x r r' => by
    have e : PyProof.Rows.lexLt PyProof.Rows.itemOrd (x :: r) (x :: r') = (PyProof.Rows.itemOrd.blt x x || (!PyProof.Rows.itemOrd.blt x x && PyProof.Rows.lexLt PyProof.Rows.itemOrd r r')) := PyProof.Rows.lex_cons _ _ _ _
    rw [e, PyProof.Rows.itemOrd.irrefl x]
    simp
  have L2 : ∀ (x y : List Nat) (r r' : List (Int ⊕ List Nat)), PyProof.Rows.lexLt PyProof.Rows.itemOrd (.inr x :: r) (.inr y :: r') = ((PyProof.Rows.strKind).blt x y || (!(PyProof.Rows.strKind).blt y x && PyProof.Rows.lexLt PyProof.Rows.itemOrd r r')) := fun x y r r' => PyProof.Rows.lex_cons _ _ _ _
  have e0 : PyProof.Rows.lexLt PyProof.Rows.itemOrd [.inl 0] [.inl 0] = false := PyProof.Rows.lex_irrefl _
  rw [L1, L2, L1, L2, e0]
  simp
theorem dataLe2 (b c : V × PyData) : PySem.W.dataLe false (fun b : V × PyData => kd2 b.2) b c = le2 b.2 c.2 := by
  show (!PyProof.Rows.lexLt PyProof.Rows.itemOrd (PySem.W.keyToks (kd2 c.2)) (PySem.W.keyToks (kd2 b.2))) = (!O2.blt (tok2 (k2 c.2)) (tok2 (k2 b.2)))
  unfold kd2
  rw [toks2, toks2, lt_toks2]
section
variable {X : Cx} {Wx : WX} {k : Nat}
theorem de_sortK2 {c P : Addr} {params : Arguments} {scope : Scope} {y : Str} {e : Expr} {es : List Expr} {ws : DA} {p q1 q2 q3 q4 lp kp pos : Pos} {j : Nat} (g : Good X Wx k) (TB : TabB X.base X.mg c P) (hcode : X.env.code = .ref c) (hm : (P, X.env.qual ++ "<lambda>") ∈ TabsC.T) (hu : ∀ p ∈ TabsC.T, p.1 = P → p.2 = X.env.qual ++ "<lambda>")
    (ok : LamOk params scope y) (hm0 : X.mg "sorted" = none) (ha : DAs X Wx (e :: es) ws) (hdef : defaultsOf params X.env = ([], []) := by rfl)
    (hg : Gl X "sorted" := by rfl) (hv : bootBuiltins "sorted" = some (.builtin "sorted") := by decide +kernel)
    (he : backTo pos (starEach (e :: es) X.env) = (false, eval e X.env) :: backTo pos (starEach es X.env) := by rfl) (hpl : (backTo pos (starEach (e :: es) X.env)).any (·.1) = false := by rfl) :
    DE X Wx (.Call (.Name "sorted" p) (e :: es) [⟨some "key", lam2 params scope y q1 q2 q3 q4 j lp, kp⟩] pos) (dCB dSortT ws) := by
  refine ⟨fun pins s σ H Q I h => ?_⟩
  obtain ⟨G, α, Γ, O, R, xe, sl, rel, h, pq, xp⟩ := h
  refine wpAny_Call_Name_kw (ld_blt I hg hm0 hv ?_ (by decide) (by decide))
  refine callWith_kw (thn (ha.run pos pins s σ H (fun vs H1 => ∃ G1 α1 O1 xs, Ex G G1 ∧ Pre α α1 ∧ Rel X.K X.mg G1 α1 O1 H1 ∧ RvL X.K G1 α1 vs xs ∧ dSortT xs O1 R) I ⟨G, α, Γ, O, _, xe, sl, rel, h, fun r O1 hr v G1 α1 H1 e1 p1 rel1 rv1 => ⟨G1, α1, O1, r, e1, p1, rel1, rv1, hr⟩, xp⟩) fun us s1 ⟨vs, H1, I1, r1, G1, α1, O1, xs, e1, p1, rel1, rl, h1⟩ => ?_) he hpl (by rfl) (by rfl)
  obtain ⟨_, _, ps, hP, ht, hold⟩ := rel1.tb _ hm
  have hP : H1 P = some (.tbl ps) := hP
  refine wpAny_evalAll_cons (wpAny_bind (lam_mk I1 TB hcode hP ht (fun pos cv hc => let ⟨c, e, h4, _⟩ := hold pos cv hc; ⟨c, e, h4⟩) hdef (fun y hy h => absurd h (ok.free y hy)) fun f c' pm ctv H2 s2 I2 hor hobj hfn hfs => wpAny_bind (wpAny_standAt (wpAny_pure (wpAny_evalAll_nil ?_)))))
  have rel2 : Rel X.K X.mg G1 α1 O1 H2 := by
    rcases hor with ⟨e, _⟩ | ⟨nC, hcn, e⟩
    · rw [e]; exact rel1
    · rw [e]
      have eL : (ps ++ #[rawInt ↑lp.line, rawInt ↑lp.col, .ref c']).toList = ps.toList ++ [rawInt ↑lp.line, rawInt ↑lp.col, .ref c'] := by simp
      refine rel1.tabbed hm hu hP nC (by rw [eL]; exact TriplesOk_snoc _ _ _ _ ht) fun pos cv hc => ?_
      rw [eL] at hc
      exact LamX.among_app _ ht hc
  have hco : H2 c' = some (CodeO c' (X.env.qual ++ "<lambda>")) := by
    rcases hor with ⟨e, h⟩ | ⟨_, _, e⟩
    · rw [e]; exact h
    · rw [e, upd_same]
  have hcr : ∃ (oc : Obj) (vs : Array Value) (t : Tok), s2.heap.get? c' = some oc ∧ oc.data = .fields vs ∧ vs[1]? = some (Value.str (X.env.qual ++ ("<lambda>" : Str)) t) := (I2.hok c' _ hco).1
  obtain ⟨oc, vsc, tq, hc1, hc2, hc3⟩ := hcr
  unfold dSortT at h1
  split at h1
  · next x =>
    obtain ⟨v, rfl, rv⟩ := rv1 rl
    split at h1
    · next wl ew =>
      split at h1
      · next ds ed =>
        obtain ⟨⟨hk, nd, al, sh⟩, h1⟩ := h1
        obtain ⟨a, uv, rfl, hs, ra⟩ := asL_ok rel2 rv ew
        rw [datas_eq ed] at ra
        have rp := ra.toD
        obtain rfl := Vals.ref1 r1
        obtain ⟨its, rvs, pl, hz⟩ := I2.list (SqL.of hs)
        have dp := rp_dps 40 ds rel2.ex rp sh
        have hlen := dpAll_len dp
        obtain ⟨e3, _⟩ := each_of I2 dp rvs
        have e4 : PySem.W.EachIs (fun (v : Value) (b : V × PyData) => RelV b.1 v ∧ Rp X.K G1 b.1 b.2 ∧ (hd2 b.2).isSome = true) its (uv.zip ds) := (PySem.W.each_mem e3).mono fun v b ⟨h, hb⟩ => ⟨h, rpL_mem rp b hb, hk _ (by rw [← zip_snd hlen]; exact List.mem_map.mpr ⟨b, hb, rfl⟩)⟩
        have nl : s2.heap.NoLimit := Heap.NoLimit.keeps I2.mod.nolimit I2.bk
        have hdp : X.A.in1.in1.depth < recursionLimit := by
          have := g.rm.dp
          show X.A.depth < recursionLimit
          omega
        refine PySem.W.sorted_key_data (b := false) (fun b : V × PyData => kd2 b.2) pl.isList e4 (fun d hd d' hd' => ?_) (.inl fun d hd => ?_) (by rw [List.length_zip]; omega) (fun b hb => ?_) (by with_unfolding_all rfl) (fun _ => by with_unfolding_all rfl) (fun _ => by rfl) (fun v b hR hb h tk kp => ?_) (fun out cc h' tk kp hno hout hlo heo => ?_)
        · obtain ⟨b, _, rfl⟩ := List.mem_map.mp hd
          obtain ⟨b', _, rfl⟩ := List.mem_map.mp hd'
          simp [kd2, PySem.W.alike, PySem.W.alikeAll]
        · obtain ⟨b, _, rfl⟩ := List.mem_map.mp hd
          exact ⟨_, _, rfl⟩
        · have := hu100 g.rm
          have e : (kd2 b.2).depth ≤ 10 := by simp [kd2, PyData.depth, PyData.depthAll]
          omega
        · obtain ⟨hv1, hv2, hv3⟩ := hR
          obtain ⟨bv, bd⟩ := b
          have hv2 : Rp X.K G1 bv bd := hv2
          have hv3 : (hd2 bd).isSome = true := hv3
          cases ep : hd2 bd with
          | none => rw [ep] at hv3; cases hv3
          | some pr =>
            obtain ⟨rr, ebd⟩ := hd2_eq ep
            subst ebd
            cases hv2 with
            | @tup l xs _ hsq td hxs =>
              cases hv1
              obtain ⟨it, rvt, htu, hzz⟩ := I2.tuple (rel2.ex.sqT hsq)
              obtain ⟨o, ho, hcl, n, hdt⟩ := htu
              cases hxs with
              | cons ra1 hxs =>
                cases ra1
                cases hxs with
                | cons ra2 hxs =>
                  cases ra2
                  cases rvt with
                  | cons w1 rvt =>
                    cases rvt with
                    | cons w2 rvt =>
                      obtain ⟨t1, rfl⟩ := w1
                      obtain ⟨t2, rfl⟩ := w2
                      have hl := Vals.length rvt
                      refine key_call (s := s2) ok hdp (nl.keeps kp) (kp _ _ hobj) ⟨c', oc, vsc, tq, rfl, kp _ _ hc1, hc2, hc3⟩ ⟨o, kp _ _ ho, hcl, n, hdt⟩ ?_ ⟨.str pr.1 t1, .str pr.2 t2, _, .str pr.1, .str pr.2, rfl, .str _ _, .str _ _, ?_⟩
                      · rw [List.size_toArray, List.length_cons, List.length_cons, ← hl]
                        exact hzz
                      · unfold kd2 k2
                        rw [ep]; rfl
        · have eo : (uv.zip ds).mergeSort (PySem.W.dataLe false fun b : V × PyData => kd2 b.2) = (uv.zip ds).mergeSort fun b c => le2 b.2 c.2 := by
            rw [show PySem.W.dataLe false (fun b : V × PyData => kd2 b.2) = fun b c => le2 b.2 c.2 from funext fun b => funext fun c => dataLe2 b c]
          rw [eo] at heo
          have lz : (((uv.zip ds).mergeSort fun b c => le2 b.2 c.2).map Prod.fst).length ≤ sizeLine := by rw [List.length_map, List.length_mergeSort, List.length_zip]; omega
          have ge := rel2.ex.free (I2.hok.fresh (Nat.le_succ s2.heap.objs.size))
          refine ⟨.ref _, upd H2 (s2.heap.objs.size + 1) (.lst (((uv.zip ds).mergeSort fun b c => le2 b.2 c.2).map Prod.fst)), I2.laid (t' := tk) kp (Nat.le_succ _) ⟨lz, out, cc, each_vals (heo.mono fun _ _ h => h.1), hout⟩, rfl, ?_⟩
          exact (pq.mono e1 p1).lay h1 rel2 (I2.hok.fresh (Nat.le_succ _)) (.lst upd_same ((rpL_srt2 rp).mono (Ex.new ge)))
      · exact h1.elim
    · exact h1.elim
  · exact h1.elim
end
/-- a def whose code object is known -/
theorem ok_defL {P : Program} {w : World} {K : Fg} {mg : Str → Option Value} {base : Heap} {x qual : Str} {st : Stmt} {f c : Addr} {fd : FuncData} {N ps : List Str} {k : Nat} {b : DSt} (F : Fun K x qual st f fd) (S : FnScope N ps (defScope st)) (hc : fd.code = .ref c)
    (hb : ∀ (A : Around) (outer : List Env) (s : Shared) (H : Hp) (E : XK), Good (cxOf (L2N.CX P w) P w K mg base N qual (defScope st) f (.ref c) A outer s H E) (fun cls d _ H => E cls d H) k →
      DSs (cxOf (L2N.CX P w) P w K mg base N qual (defScope st) f (.ref c) A outer s H E) (fun cls d _ H => E cls d H) (defBody st) b) :
    FnOk P w K mg base (L2N.CX P w) (k + 1) f fd ps (liftF K mg (dDef N.length ps.length b)) := by
  obtain ⟨oc, od, kV, doc, pm, an, cdv, ct, osl, rfl, lk, hcd⟩ := F.ex
  have hc : cdv = .ref c := hc
  subst hc
  refine fn_of lk hcd S (fun vs H Q E h => ?_) fun A outer s H vs Q E hr h => ?_
  · obtain ⟨G, α, ws, O, R, xe, r, rel, ⟨hl, _⟩, _⟩ := h
    rw [r.len, hl]
  · exact ⟨_, hb A outer s H E ⟨L2N.takes_of rfl rfl rfl rfl, passes_of rfl, hr, rfl, S.nd⟩, def_in h⟩
/-- a code object's head, as the fragment holds it -/
theorem codeHd_in {K : Fg} {h : Heap} {c P : Addr} {od : Option Addr} {vs : Array Value} {sl : Array (Option Value)} {file : Str} {tf tg tt flags text : _} {inF : Bool} (X : K.In h) (l : K.lookup c = some ⟨.type "code", od, .fields vs, sl⟩)
    (h11 : vs[11]? = some (.ref P)) (h18 : vs.getD 18 .none = .str file tf) (h7 : vs.getD 7 .none = .int flags tg) (h9 : vs.getD 9 .none = .bool inF) (h10 : vs.getD 10 .none = .int text tt) (ne : c ≠ P) : PySem.W.CodeHd h c P :=
  ⟨_, vs, file, tf, flags, tg, inF, text, tt, X c _ l, rfl, rfl, h11, by rw [Array.getD_eq_getD_getElem?, h11]; rfl, h18, h7, h9, h10, ne⟩
end Dl
/-! ### keys cut from tuples; list(d) of a dict with tuples as keys; what is done with such a list -/
namespace Dl
open PySem PySem.Spec PyProof.Rows L2
variable [TabsC]
def dSlK (x : W) (lo hi : Option Int) (O : Oh) (R : DK) : Prop := match x with
  | .d (.tuple ds) => (match keysW ((cutL ds lo hi).map W.d) with
    | some ks => ¬ (HT.sIx ds.length 0 lo = 0 ∧ HT.sIx ds.length ds.length hi = ds.length) ∧ R (.k ks) O
    | none => False)
  | _ => False
/-- x[lo:hi], a tuple that is a key -/
def dSliceK (wo : DEx) (wl wh : DO) : DEx := fun Γ O R xe => wo Γ O (fun x O1 => wl Γ O1 (fun lo O2 => wh Γ O2 (fun hi O3 => dSlK x lo hi O3 R) xe) xe) xe
section
variable {X : Cx} {Wx : WX} {k : Nat} {e : Expr} {we : DEx} {p2 pos : Pos}
theorem de_sliceK {lo hi : Option Expr} {wl wh : DO} (he : DE X Wx e we) (hl : DOp X Wx lo wl) (hh : DOp X Wx hi wh) : DE X Wx (.Subscript e (.Slice lo hi none p2) pos) (dSliceK we wl wh) := by
  refine pe_imp (fun σ H Q ⟨G, α, Γ, O, R, xe, sl, rel, h, p, xp⟩ => ?_) (pe_slice sl_tupA he hl hh)
  refine ⟨G, α, Γ, O, _, xe, sl, rel, h, fun x O1 h1 v G1 α1 H1 e1 p1 rel1 r1 => ?_, xp⟩
  refine ⟨G1, α1, Γ, O1, _, xe, sl.mono e1 p1, rel1, h1, fun lo O2 h2 G2 α2 H2 e2 p2 rel2 => ?_, xp.mono e1 p1⟩
  refine ⟨G2, α2, Γ, O2, _, xe, sl.mono (e1.trans e2) (p1.trans p2), rel2, h2, fun hi O3 h3 G3 α3 H3 e3 p3 rel3 => ?_, xp.mono (e1.trans e2) (p1.trans p2)⟩
  have r3 := r1.mono (e2.trans e3) (p2.trans p3)
  have pp := p.mono (e1.trans (e2.trans e3)) (p1.trans (p2.trans p3))
  unfold dSlK at h3
  split at h3
  · next ds =>
    split at h3
    · next ks ek =>
      cases r3 with
      | @tup a vs _ hs td ha =>
        have hl := ha.length
        refine ⟨_, _, rfl, rel3.ex.sqT hs, fun z => absurd (by rw [hl] at z; exact z) h3.1, fun _ q hq => ?_⟩
        have rc : RpL X.K G3 (cutV vs lo hi) (cutL ds lo hi) := by
          unfold cutL cutV
          rw [← hl]
          exact (ha.drop _).take _
        have rw' := RvL.ofD (α := α3) rc
        have ok := keysW_all rw' ek
        have ev := keysW_ok rw' ek
        rw [ev]
        exact pp _ _ h3.2 _ (upd G3 q (.tup (ks.map kV))) α3 _ (Ex.new (rel3.ex.free hq)) (Pre.refl _) (rel3.lay hq) ⟨ok, q, rfl, upd_same⟩
    · exact h3.elim
  · exact h3.elim
end
section
variable {K : Fg} {mg : Str → Option Value} {G : Hp} {α : Al} {O : Oh} {H : Hp}
/-- keys that stand somewhere become known -/
theorem Rel.knowAll {es : List (List Key × V)} {bs : List Addr} (R : Rel K mg G α O H) (h : IsKeys H es bs) : ∃ G', Ex G G' ∧ Rel K mg G' α O H ∧ IsKeys G' es bs := by
  induction h generalizing G with
  | nil => exact ⟨G, Ex.refl _, R, .nil⟩
  | cons h t ih =>
    obtain ⟨G1, e1, R1, g1⟩ := R.know h
    obtain ⟨G2, e2, R2, g2⟩ := ih R1
    exact ⟨G2, e1.trans e2, R2, .cons (e2 _ _ g1) g2⟩
theorem rv_keys {G : Hp} {α : Al} : ∀ {es : List (List Key × V)} {bs : List Addr} {kvs : List (List Key × W)}, IsKeys G es bs → es.map (·.1) = kvs.map (·.1) → (kvs.all fun kv => kv.1.all keyOk) = true → RvL K G α (bs.map V.ref) (kvs.map fun kv => W.k kv.1)
  | _, _, [], .nil, _, _ => .nil
  | _, _, kv :: r, .nil, h, _ => by cases h
  | _, _, [], .cons _ _, h, _ => by cases h
  | _, _, kv :: r, .cons h t, hm, ok => by
    rw [List.map_cons, List.map_cons] at hm
    injection hm with h1 h2
    rw [List.all_cons, Bool.and_eq_true] at ok
    exact .cons ⟨ok.1, _, rfl, by rw [← h1]; exact h⟩ (rv_keys t h2 ok.2)
end
/-- list(d), d with tuples as keys: a list that may change -/
def dListT : DC := fun xs O R => match xs with
  | [x] => (match asDt x O with
    | some kvs => (kvs.all fun kv => kv.1.all keyOk) = true ∧ R (.c O.length) (O ++ [.lst (kvs.map fun kv => .k kv.1)])
    | none => False)
  | _ => False
def rListT : List V → Hp → VK → Prop := fun xs H Q => ∃ d kvs, xs = [V.ref d] ∧ Rd H d (.dT kvs) ∧ ∀ (p : Addr) (bs : List Addr), H p = none → IsKeys H kvs bs → Q (.ref p) (upd H p (.lst (bs.map V.ref)))
theorem s_listT {K : Fg} {mg : Str → Option Value} : CallS K mg dListT rListT := by
  intro G α O H xs vs R Q rel rl h p
  unfold dListT at h
  split at h
  · next x =>
    split at h
    · next kvs e =>
      obtain ⟨v, rfl, rv⟩ := rv1 rl
      obtain ⟨a, es, rfl, hr, rk⟩ := asDt_ok rel rv e
      refine ⟨a, es, rfl, hr, fun l bs hl hk => ?_⟩
      obtain ⟨G', e', rel', gk⟩ := rel.knowAll hk
      have rr := rv_keys (K := K) (α := α) gk rk.ks h.1
      have ge := rel'.ex.free hl
      have hlen := rel'.len
      have rel2 := rel'.cell (c := .lst (kvs.map fun kv => W.k kv.1)) hl (fun b z => by cases z) ⟨ge, _, upd_same, rr.mono (Ex.refl _) Pre.push⟩
      refine p _ _ h.2 _ _ _ _ e' Pre.push rel2 ⟨l, ?_, rfl⟩
      show (α.as ++ [l])[O.length]? = some l
      rw [← hlen, List.getElem?_append_right (Nat.le_refl _), Nat.sub_self]
      rfl
    · exact h.elim
  · exact h.elim
/-- key + (.., ..) -/
def dAddK : D2 := fun x y O R => match x, y with
  | .k ks, .d (.tuple ys) => ks ≠ [] ∧ ys ≠ [] ∧ ks.length + ys.length ≤ 1000000 ∧ R (.d (.tuple (ks.map keyD ++ ys))) O
  | _, _ => False
theorem s_addK {K : Fg} {mg : Str → Option Value} : OpS K mg dAddK (rCatF K) := by
  intro G α O H x y u v R Q rel r1 r2 h p
  unfold dAddK at h
  split at h
  · next ks ys =>
    obtain ⟨n1, n2, hz, h⟩ := h
    obtain ⟨ok, a, rfl, ht⟩ := r1
    have a1 := RpL.keys (K := K) (G := G) ok
    cases r2 with
    | tup h2 t2 a2 =>
      have l1 := a1.length
      have l2 := a2.length
      refine ⟨_, _, _, _, rfl, rfl, rel.ex.sqT (SqT.of ht), rel.ex.sqT h2, by rw [l1, l2, List.length_map]; exact szl hz, fun z => ?_, fun _ z => ?_, fun _ _ l ob hl hd => p.layF h rel hl hd (a1.append a2)⟩
      · exact absurd (List.map_eq_nil_iff.mp z) n1
      · subst z
        cases a2
        exact absurd rfl n2
  · exact h.elim
def ksOf : List W → Option (List (List Key))
  | [] => some []
  | .k ks :: r => (match ksOf r with
    | some q => some (ks :: q)
    | none => none)
  | _ => none
theorem ksOf_map : ∀ kss : List (List Key), ksOf (kss.map W.k) = some kss
  | [] => rfl
  | ks :: r => by
    rw [List.map_cons]
    unfold ksOf
    rw [ksOf_map r]
/-- a list of keys != [] -/
def dNeKs : D2 := fun x y O R => match asL x O, y with
  | some ws, .d (.list []) => (match ksOf ws with
    | some kss => R (.d (.bool (!kss.isEmpty))) O
    | none => False)
  | _, _ => False
section
variable {K : Fg} {mg : Str → Option Value} {G : Hp} {α : Al} {O : Oh} {H : Hp}
def tK (ks : List Key) : PyData := .tuple (ks.map keyD)
theorem ks_dp (rel : Rel K mg G α O H) : ∀ {ws : List W} {vs : List V} {kss : List (List Key)}, RvL K G α vs ws → ksOf ws = some kss → DpAll K H vs (kss.map tK) ∧ PyData.canLayAll0 (kss.map tK) = true ∧ (kss.map tK).all (shp 39) = true
  | [], _, _, r, e => by cases r; cases e; exact ⟨.nil, rfl, rfl⟩
  | x :: ws, _, _, r, e => by
    cases r with
    | cons r t =>
      cases x with
      | k ks =>
        unfold ksOf at e
        split at e
        · next q eq =>
          cases e
          obtain ⟨ok, a, rfl, ht⟩ := r
          have rd := RpL.keys (K := K) (G := G) ok
          obtain ⟨h1, h2, h3⟩ := ks_dp rel t eq
          refine ⟨.cons (.tup (rel.ex.sqT (SqT.of ht)) (rp_dps 38 _ rel.ex rd (shp_keys 38 ks))) h1, ?_, ?_⟩
          · rw [List.map_cons]
            unfold PyData.canLayAll0
            rw [h2, Bool.and_true]
            show (tK ks).canLay0 = true
            unfold tK
            simpa only [PyData.canLay0] using rp_lays 38 _ rd (shp_keys 38 ks)
          · rw [List.map_cons, List.all_cons, h3, Bool.and_true]
            exact shp_keys 38 ks
        · cases e
      | _ => cases e
theorem s_neKs : OpS K mg dNeKs (rNeD K) := by
  intro G α O H x y u v R Q rel r1 r2 h p
  unfold dNeKs at h
  split at h
  · next ws ew =>
    split at h
    · next kss ek =>
      obtain ⟨a, vs, rfl, ha, ra⟩ := asL_ok rel r1 ew
      obtain ⟨d1, d2, d3⟩ := ks_dp rel ra ek
      obtain ⟨e1, e2⟩ := asD_ok rel r2 (d := .list []) rfl rfl
      refine ⟨.list (kss.map tK), .list [], .lst (SqL.of ha) d1, e1, shaped_of (n := 40) (by decide) (by simpa only [PyData.canLay0] using d2) d3, e2, ?_⟩
      have : PyData.eqv (.list (kss.map tK)) (.list []) = kss.isEmpty := by cases kss <;> simp [PyData.eqv, PyData.eqvAll]
      rw [this]
      exact p.here h rel (.bl _)
    · exact h.elim
  · exact h.elim
end
/-- a, b, c = e1, e2, e3 -/
def dPar3 (i j l : Nat) (ws : DA) : DSt := fun D xe Γ O => ws Γ O (fun vs O1 => match vs with
  | [u, v, w] => D.nx (((Γ.set i (some u)).set j (some v)).set l (some w)) O1
  | _ => False) xe
theorem ds_par3 {X : Cx} {Wx : WX} {k : Nat} {a b c : Expr} {pos : Pos} (g : Good X Wx k) {ws : DA} {i j l : Nat} {x y z : Str} {px py pz pt : Pos} {kt k2 pt2} (hi : X.N[i]? = some x) (hj : X.N[j]? = some y) (hl : X.N[l]? = some z) (hij : i ≠ j) (hil : i ≠ l) (hjl : j ≠ l)
    (hx : X.env.scope.names.lookup x = some .local) (hy : X.env.scope.names.lookup y = some .local) (hz : X.env.scope.names.lookup z = some .local) (ha : DAs X Wx [a, b, c] ws)
    (hw : swappedStores [.Tuple [.Name x px, .Name y py, .Name z pz] kt pt] (.Tuple [a, b, c] k2 pt2) X.env = pure (some [x, y, z])) :
    DS X Wx (.Assign [.Tuple [.Name x px, .Name y py, .Name z pz] kt pt] (.Tuple [a, b, c] k2 pt2) pos) (dPar3 i j l ws) := by
  refine ps_imp (fun D σ H ⟨G, α, Γ, O, DD, xe, sl, rel, h, p, xp⟩ => ?_) (ps_par3 g.calm g.nd hi hj hl hij hil hjl hx hy hz ha hw)
  refine ⟨G, α, Γ, O, _, xe, sl, rel, h, fun y O1 h1 vs G1 α1 H1 e1 p1 rel1 r1 => ?_, xp⟩
  dsimp only at h1
  split at h1
  · next u v w =>
    cases r1 with
    | cons ra rr =>
      cases rr with
      | cons rb rr =>
        cases rr with
        | cons rc rn =>
          cases rn
          exact ⟨_, _, _, rfl, p.nx _ _ h1 _ _ _ _ e1 p1 rel1 ((((sl.mono e1 p1).set ra i).set rb j).set rc l)⟩
  · exact h1.elim
end Dl
/-! ### readings are gone through, step by step: `repeat refine Go.h ?_` -/
namespace Dl
open PySem PySem.Spec PyProof.Rows L2
/-- where a law makes no lambda, or where it does not matter -/
instance (priority := 10) noTabs : TabsC := ⟨[]⟩
/-- P comes of Q -/
class Go (P : Prop) (Q : outParam Prop) : Prop where
  h : Q → P
/-! #### lists that are written out -/
class Get {α : Type} (l : List α) (i : Nat) (x : outParam α) : Prop where
  e : l[i]? = some x
instance {α : Type} {x : α} {l : List α} : Get (x :: l) 0 x := ⟨rfl⟩
instance {α : Type} {x y : α} {l : List α} {n : Nat} [h : Get l n x] : Get (y :: l) (n + 1) x := ⟨by rw [List.getElem?_cons_succ]; exact h.e⟩
class Put {α : Type} (l : List α) (i : Nat) (x : α) (l' : outParam (List α)) : Prop where
  e : l.set i x = l'
instance {α : Type} {x y : α} {l : List α} : Put (y :: l) 0 x (x :: l) := ⟨rfl⟩
instance {α : Type} {x y : α} {l l' : List α} {n : Nat} [h : Put l n x l'] : Put (y :: l) (n + 1) x (y :: l') := ⟨by rw [List.set_cons_succ, h.e]⟩
class Snoc {α : Type} (l : List α) (x : α) (l' : outParam (List α)) : Prop where
  e : l ++ [x] = l'
instance {α : Type} {x : α} : Snoc [] x [x] := ⟨rfl⟩
instance {α : Type} {x y : α} {l l' : List α} [h : Snoc l x l'] : Snoc (y :: l) x (y :: l') := ⟨by rw [List.cons_append, h.e]⟩
class Cnt {α : Type} (l : List α) (n : outParam Nat) : Prop where
  e : l.length = n
class Sz {α : Type} (l : List α) : Prop where
  e : l.length ≤ 1000000
instance {α : Type} : Cnt ([] : List α) 0 := ⟨rfl⟩
instance {α : Type} : Sz ([] : List α) := ⟨Nat.le_of_ble_eq_true rfl⟩
instance {α : Type} {a : α} : Cnt ([a] : List α) 1 := ⟨rfl⟩
instance {α : Type} {a : α} : Sz ([a] : List α) := ⟨Nat.le_of_ble_eq_true rfl⟩
instance {α : Type} {a b : α} : Cnt ([a, b] : List α) 2 := ⟨rfl⟩
instance {α : Type} {a b : α} : Sz ([a, b] : List α) := ⟨Nat.le_of_ble_eq_true rfl⟩
instance {α : Type} {a b c : α} : Cnt ([a, b, c] : List α) 3 := ⟨rfl⟩
instance {α : Type} {a b c : α} : Sz ([a, b, c] : List α) := ⟨Nat.le_of_ble_eq_true rfl⟩
instance {α : Type} {a b c d : α} : Cnt ([a, b, c, d] : List α) 4 := ⟨rfl⟩
instance {α : Type} {a b c d : α} : Sz ([a, b, c, d] : List α) := ⟨Nat.le_of_ble_eq_true rfl⟩
instance {α : Type} {a b c d e : α} : Cnt ([a, b, c, d, e] : List α) 5 := ⟨rfl⟩
instance {α : Type} {a b c d e : α} : Sz ([a, b, c, d, e] : List α) := ⟨Nat.le_of_ble_eq_true rfl⟩
instance {α : Type} {a b c d e f : α} : Cnt ([a, b, c, d, e, f] : List α) 6 := ⟨rfl⟩
instance {α : Type} {a b c d e f : α} : Sz ([a, b, c, d, e, f] : List α) := ⟨Nat.le_of_ble_eq_true rfl⟩
instance {α : Type} {a b c d e f g : α} : Cnt ([a, b, c, d, e, f, g] : List α) 7 := ⟨rfl⟩
instance {α : Type} {a b c d e f g : α} : Sz ([a, b, c, d, e, f, g] : List α) := ⟨Nat.le_of_ble_eq_true rfl⟩
instance {α : Type} {a b c d e f g h : α} : Cnt ([a, b, c, d, e, f, g, h] : List α) 8 := ⟨rfl⟩
instance {α : Type} {a b c d e f g h : α} : Sz ([a, b, c, d, e, f, g, h] : List α) := ⟨Nat.le_of_ble_eq_true rfl⟩
/-- what never changes, as data -/
class Dats (ws : List W) (ds : outParam (List PyData)) : Prop where
  e : datas ws = some ds
instance : Dats [] [] := ⟨rfl⟩
theorem datas_cons {x : PyData} {ws : List W} {ds : List PyData} (h : datas ws = some ds) : datas (.d x :: ws) = some (x :: ds) := by unfold datas; rw [h]
instance {x : PyData} {ws : List W} {ds : List PyData} [h : Dats ws ds] : Dats (.d x :: ws) (x :: ds) := ⟨datas_cons h.e⟩
instance {ds : List PyData} : Dats (ds.map W.d) ds := ⟨datas_map ds⟩
class MapD (ds : List PyData) (ws : outParam (List W)) : Prop where
  e : ds.map W.d = ws
instance : MapD [] [] := ⟨rfl⟩
instance {x : PyData} {ws : List W} {ds : List PyData} [h : MapD ds ws] : MapD (x :: ds) (.d x :: ws) := ⟨by rw [List.map_cons, h.e]⟩
instance (priority := low) {ds : List PyData} : MapD ds (ds.map W.d) := ⟨rfl⟩
/-! #### the store: what was there, and cells of one's own behind -/
class Len (O : Oh) (n : outParam Nat) : Prop where
  e : O.length = n
class CloC (n : Nat) (O : Oh) : Prop where
  e : Clo n O = true
class Cl (O : Oh) (j : Nat) (c : outParam Cell) : Prop where
  e : O[j]? = some c
instance {O L : Oh} {n k : Nat} {c : Cell} [l : Len O n] [g : Get L k c] : Cl (O ++ L) (n + k) c := ⟨by rw [← l.e, List.getElem?_append_right (Nat.le_add_right _ _), Nat.add_sub_cancel_left]; exact g.e⟩
instance (priority := low) {O L : Oh} {j : Nat} {c : Cell} [g : Cl O j c] : Cl (O ++ L) j c := ⟨by rw [List.getElem?_append_left (List.getElem?_eq_some_iff.mp g.e).1]; exact g.e⟩
/-- a cell put -/
class St (O : Oh) (j : Nat) (c : Cell) (O' : outParam Oh) : Prop where
  e : O.set j c = O'
theorem set_app {O L : Oh} {k : Nat} {c : Cell} : (O ++ L).set (O.length + k) c = O ++ L.set k c := by
  rw [List.set_append_right _ _ (Nat.le_add_right _ _), Nat.add_sub_cancel_left]
instance {O L L' : Oh} {n k : Nat} {c : Cell} [l : Len O n] [g : Put L k c L'] : St (O ++ L) (n + k) c (O ++ L') := ⟨by rw [← l.e, set_app, g.e]⟩
/-- a new cell -/
class Nw (O : Oh) (c : Cell) (j : outParam Nat) (O' : outParam Oh) : Prop where
  e : O.length = j ∧ O ++ [c] = O'
instance {O L L' : Oh} {n k : Nat} {c : Cell} [l : Len O n] [g : Cnt L k] [s : Snoc L c L'] : Nw (O ++ L) c (n + k) (O ++ L') := ⟨by rw [List.length_append, l.e, g.e, List.append_assoc, s.e]; exact ⟨rfl, rfl⟩⟩
/-! #### defs -/
class SG (N : Nat) (ws : List W) (Γ : outParam Gm) : Prop where
  e : startG N ws = Γ
instance : SG 0 [] [] := ⟨rfl⟩
instance {N : Nat} {Γ : Gm} [h : SG N [] Γ] : SG (N + 1) [] (none :: Γ) := ⟨by rw [← h.e]; rfl⟩
instance {N : Nat} {w : W} {ws : List W} {Γ : Gm} [h : SG N ws Γ] : SG (N + 1) (w :: ws) (some w :: Γ) := ⟨by
  rw [← h.e]; unfold startG; rw [List.map_cons, List.length_cons, Nat.add_sub_add_right]; rfl⟩
theorem def_start {N m : Nat} {b : DSt} {ws : List W} {O : Oh} {R : DK} {xe : Exn → Oh → Prop} {Γ : Gm} (hl : ws.length = m) [hg : SG N ws Γ]
    (h : ∀ n, [Len O n] → [CloC n O] → b ⟨fun _ O' => Fin n O' (R (.d .none)), dAns n R, fun _ _ => False, fun _ _ => False⟩ (fun ex _ O' => Fin n O' (xe ex)) Γ (O ++ [])) : dDef N m b ws O R xe := by
  refine ⟨hl, fun c => ?_⟩
  haveI : Len O O.length := ⟨rfl⟩
  haveI : CloC O.length O := ⟨c⟩
  have := h O.length
  rw [List.append_nil] at this
  rw [hg.e]
  exact this
theorem def_startC {N m : Nat} {b : DSt} {ws : List W} {O : Oh} {R : DK} {xe : Exn → Oh → Prop} {Γ : Gm} (hl : ws.length = m) [hg : SG N ws Γ]
    (h : ∀ n, [Len O n] → [CloC n O] → b ⟨fun _ O' => Fin n O' (R (.d .none)), dAnsC n R, fun _ _ => False, fun _ _ => False⟩ (fun ex _ O' => Fin n O' (xe ex)) Γ (O ++ [])) : dDefC N m b ws O R xe := by
  refine ⟨hl, fun c => ?_⟩
  haveI : Len O O.length := ⟨rfl⟩
  haveI : CloC O.length O := ⟨c⟩
  have := h O.length
  rw [List.append_nil] at this
  rw [hg.e]
  exact this
theorem fin_go {O L : Oh} {n : Nat} {k : Oh → Prop} [l : Len O n] [c : CloC n O] (h : k O) : Fin n (O ++ L) k := by
  refine .inr ?_
  rw [← l.e, List.take_left, l.e]
  exact ⟨c.e, h⟩
instance {O L : Oh} {n : Nat} {k : Oh → Prop} [l : Len O n] [c : CloC n O] : Go (Fin n (O ++ L) k) (k O) := ⟨fin_go⟩
instance {O L : Oh} {n : Nat} {R : DK} {x : PyData} [l : Len O n] [c : CloC n O] : Go (dAns n R (.d x) (O ++ L)) (R (.d x) O) := ⟨fin_go (k := R (.d x))⟩
instance {O L : Oh} {n : Nat} {R : DK} {x : PyData} [l : Len O n] [c : CloC n O] : Go (dAnsC n R (.d x) (O ++ L)) (R (.d x) O) := ⟨fin_go (k := R (.d x))⟩
theorem ans_own {O L : Oh} {n k : Nat} {R : DK} {ws : List W} {ds : List PyData} (l : Len O n) (c : CloC n O) (g : Cl (O ++ L) (n + k) (.lst ws)) (d : Dats ws ds) (h : R (.d (.list ds)) O) : dAns n R (.c (n + k)) (O ++ L) := by
  show (if n + k < n then _ else _)
  rw [if_neg (by omega), g.e]
  dsimp only
  rw [d.e]
  exact fin_go (k := R (.d (.list ds))) h
instance {O L : Oh} {n k : Nat} {R : DK} {ws : List W} {ds : List PyData} [l : Len O n] [c : CloC n O] [g : Cl (O ++ L) (n + k) (.lst ws)] [d : Dats ws ds] : Go (dAns n R (.c (n + k)) (O ++ L)) (R (.d (.list ds)) O) := ⟨ans_own l c g d⟩
class CLt (n : Nat) (c : Cell) : Prop where
  e : c.lt n = true
theorem datas_all {n : Nat} : ∀ {ws : List W} {ds : List PyData}, datas ws = some ds → ws.all (W.lt n) = true
  | [], _, _ => rfl
  | .d x :: r, ds, h => by
    unfold datas at h
    split at h
    · next xs e => rw [List.all_cons, datas_all e]; rfl
    · cases h
  | .c _ :: _, _, h | .k _ :: _, _, h | .p _ :: _, _, h | .q _ _ :: _, _, h | .o _ _ _ :: _, _, h | .t _ :: _, _, h => by cases h
instance {n : Nat} {ws : List W} {ds : List PyData} [d : Dats ws ds] : CLt n (.lst ws) := ⟨datas_all d.e⟩
theorem ansC_own {O L : Oh} {n k : Nat} {R : DK} {c : Cell} (l : Len O n) (cl : CloC n O) (g : Get L k c) (hc : CLt n c) (h : R (.c n) (O ++ [c])) : dAnsC n R (.c (n + k)) (O ++ L) := by
  have e : (O ++ L).take n = O := by rw [← l.e, List.take_left]
  refine ⟨Nat.le_add_right _ _, by rw [e]; exact cl.e, c, ?_, hc.e, by rw [e]; exact h⟩
  rw [← l.e, List.getElem?_append_right (Nat.le_add_right _ _), Nat.add_sub_cancel_left]
  exact g.e
instance {O L : Oh} {n k : Nat} {R : DK} {c : Cell} [l : Len O n] [cl : CloC n O] [g : Get L k c] [hc : CLt n c] : Go (dAnsC n R (.c (n + k)) (O ++ L)) (R (.c n) (O ++ [c])) := ⟨ansC_own l cl g hc⟩
/-! #### statements -/
instance {f b c : Gm → Oh → Prop} {r : DK} {Γ : Gm} {O : Oh} {xe : DX} : Go (dNext ⟨f, r, b, c⟩ xe Γ O) (f Γ O) := ⟨fun h => h⟩
instance {f b c : Gm → Oh → Prop} {r : DK} {Γ : Gm} {O : Oh} {xe : DX} {t u : DSt} : Go (dSeq t u ⟨f, r, b, c⟩ xe Γ O) (t ⟨u ⟨f, r, b, c⟩ xe, r, b, c⟩ xe Γ O) := ⟨fun h => h⟩
instance {f b c : Gm → Oh → Prop} {r : DK} {Γ : Gm} {O : Oh} {xe : DX} : Go (dBreak ⟨f, r, b, c⟩ xe Γ O) (b Γ O) := ⟨fun h => h⟩
instance {f b c : Gm → Oh → Prop} {r : DK} {Γ : Gm} {O : Oh} {xe : DX} : Go (dCont ⟨f, r, b, c⟩ xe Γ O) (c Γ O) := ⟨fun h => h⟩
def kDrop (f : Gm → Oh → Prop) (Γ : Gm) : DK := fun _ O => f Γ O
instance {f b c : Gm → Oh → Prop} {r : DK} {Γ : Gm} {O : Oh} {xe : DX} {w : DEx} : Go (dDrop w ⟨f, r, b, c⟩ xe Γ O) (w Γ O (kDrop f Γ) xe) := ⟨fun h => h⟩
instance {f : Gm → Oh → Prop} {Γ : Gm} {x : W} {O : Oh} : Go (kDrop f Γ x O) (f Γ O) := ⟨fun h => h⟩
instance {f b c : Gm → Oh → Prop} {r : DK} {Γ : Gm} {O : Oh} {xe : DX} {w : DEx} : Go (dRet w ⟨f, r, b, c⟩ xe Γ O) (w Γ O r xe) := ⟨fun h => h⟩
instance {f b c : Gm → Oh → Prop} {r : DK} {Γ : Gm} {O : Oh} {xe : DX} : Go (dRetN ⟨f, r, b, c⟩ xe Γ O) (r (.d .none) O) := ⟨fun h => h⟩
def kIf (t u : DSt) (D : DEnds) (xe : DX) (Γ : Gm) : Bool → Oh → Prop := fun b O => if b = true then t D xe Γ O else u D xe Γ O
instance {Γ : Gm} {O : Oh} {xe : DX} {D : DEnds} {c : DT} {t u : DSt} : Go (dIf c t u D xe Γ O) (c Γ O (kIf t u D xe Γ) xe) := ⟨fun h => h⟩
instance {Γ : Gm} {O : Oh} {xe : DX} {D : DEnds} {t u : DSt} : Go (kIf t u D xe Γ true O) (t D xe Γ O) := ⟨fun h => by unfold kIf; rw [if_pos rfl]; exact h⟩
instance {Γ : Gm} {O : Oh} {xe : DX} {D : DEnds} {t u : DSt} : Go (kIf t u D xe Γ false O) (u D xe Γ O) := ⟨fun h => by unfold kIf; rw [if_neg Bool.false_ne_true]; exact h⟩
def kAsg (t : Tg) (f : Gm → Oh → Prop) (Γ : Gm) : DK := fun x O => t.put x Γ fun Γ' => f Γ' O
instance {f b c : Gm → Oh → Prop} {r : DK} {Γ : Gm} {O : Oh} {xe : DX} {w : DEx} {t : Tg} : Go (dAsg w t ⟨f, r, b, c⟩ xe Γ O) (w Γ O (kAsg t f Γ) xe) := ⟨fun h => h⟩
instance {f : Gm → Oh → Prop} {Γ : Gm} {x : W} {O : Oh} {t : Tg} : Go (kAsg t f Γ x O) (t.put x Γ fun Γ' => f Γ' O) := ⟨fun h => h⟩
theorem put_nm {Γ Γ' : Gm} {i : Nat} {x : W} {R : Gm → Prop} [g : Put Γ i (some x) Γ'] (h : R Γ') : (Tg.nm i).put x Γ R := by unfold Tg.put; rw [g.e]; exact h
instance {Γ Γ' : Gm} {i : Nat} {x : W} {R : Gm → Prop} [g : Put Γ i (some x) Γ'] : Go ((Tg.nm i).put x Γ R) (R Γ') := ⟨put_nm⟩
theorem put_tup {Γ : Gm} {ts : List Tg} {ds : List PyData} {ws : List W} {R : Gm → Prop} [m : MapD ds ws] (h : Tg.puts ts ws Γ R) : (Tg.tup ts).put (.d (.tuple ds)) Γ R := by unfold Tg.put; dsimp only; rw [m.e]; exact h
instance {Γ : Gm} {ts : List Tg} {ds : List PyData} {ws : List W} {R : Gm → Prop} [m : MapD ds ws] : Go ((Tg.tup ts).put (.d (.tuple ds)) Γ R) (Tg.puts ts ws Γ R) := ⟨put_tup⟩
theorem put_p {Γ : Gm} {ts : List Tg} {ds : List PyData} {ws : List W} {R : Gm → Prop} [m : MapD ds ws] (h : Tg.puts ts ws Γ R) : (Tg.tup ts).put (.p ds) Γ R := by unfold Tg.put; dsimp only; rw [m.e]; exact h
instance {Γ : Gm} {ts : List Tg} {ds : List PyData} {ws : List W} {R : Gm → Prop} [m : MapD ds ws] : Go ((Tg.tup ts).put (.p ds) Γ R) (Tg.puts ts ws Γ R) := ⟨put_p⟩
instance {Γ : Gm} {R : Gm → Prop} : Go (Tg.puts [] [] Γ R) (R Γ) := ⟨fun h => by unfold Tg.puts; exact h⟩
instance {Γ : Gm} {t : Tg} {ts : List Tg} {w : W} {ws : List W} {R : Gm → Prop} : Go (Tg.puts (t :: ts) (w :: ws) Γ R) (t.put w Γ fun Γ1 => Tg.puts ts ws Γ1 R) := ⟨fun h => by unfold Tg.puts; exact h⟩
def kPar (i j : Nat) (f : Gm → Oh → Prop) (Γ : Gm) : List W → Oh → Prop := fun vs O => match vs with
  | [v, w] => f ((Γ.set i (some v)).set j (some w)) O
  | _ => False
instance {f b c : Gm → Oh → Prop} {r : DK} {Γ : Gm} {O : Oh} {xe : DX} {i j : Nat} {ws : DA} : Go (dPar i j ws ⟨f, r, b, c⟩ xe Γ O) (ws Γ O (kPar i j f Γ) xe) := ⟨fun h => h⟩
instance {f : Gm → Oh → Prop} {Γ Γ1 Γ2 : Gm} {i j : Nat} {v w : W} {O : Oh} [g1 : Put Γ i (some v) Γ1] [g2 : Put Γ1 j (some w) Γ2] : Go (kPar i j f Γ [v, w] O) (f Γ2 O) := ⟨fun h => by unfold kPar; dsimp only; rw [g1.e, g2.e]; exact h⟩
/-! #### expressions -/
theorem go_var {Γ : Gm} {O : Oh} {R : DK} {xe : DX} {i : Nat} {w : W} [g : Get Γ i (some w)] (h : R w O) : dVar i Γ O R xe := by unfold dVar; rw [g.e]; exact h
instance {Γ : Gm} {O : Oh} {R : DK} {xe : DX} {i : Nat} {w : W} [g : Get Γ i (some w)] : Go (dVar i Γ O R xe) (R w O) := ⟨go_var⟩
instance {R : DK} {Γ : Gm} {O : Oh} {xe : DX} {x : PyData} : Go (dC x Γ O R xe) (R (.d x) O) := ⟨fun h => h⟩
def kOp2 (f : D2) (x : W) (R : DK) : DK := fun y O => f x y O R
def kOp1 (f : D2) (wb : DEx) (Γ : Gm) (R : DK) (xe : DX) : DK := fun x O => wb Γ O (kOp2 f x R) xe
instance {R : DK} {Γ : Gm} {O : Oh} {xe : DX} {f : D2} {wa wb : DEx} : Go (dOp f wa wb Γ O R xe) (wa Γ O (kOp1 f wb Γ R xe) xe) := ⟨fun h => h⟩
instance {R : DK} {Γ : Gm} {O : Oh} {xe : DX} {f : D2} {wb : DEx} {x : W} : Go (kOp1 f wb Γ R xe x O) (wb Γ O (kOp2 f x R) xe) := ⟨fun h => h⟩
instance {R : DK} {O : Oh} {f : D2} {x y : W} : Go (kOp2 f x R y O) (f x y O R) := ⟨fun h => h⟩
def kB (R : Bool → Oh → Prop) : DK := fun r O => match r with
  | .d (.bool b) => R b O
  | _ => False
instance {R : Bool → Oh → Prop} {Γ : Gm} {O : Oh} {xe : DX} {w : DEx} : Go (dB w Γ O R xe) (w Γ O (kB R) xe) := ⟨fun h => h⟩
instance {R : Bool → Oh → Prop} {O : Oh} {b : Bool} : Go (kB R (.d (.bool b)) O) (R b O) := ⟨fun h => h⟩
instance {R : Bool → Oh → Prop} {Γ : Gm} {O : Oh} {xe : DX} : Go (dYes Γ O R xe) (R true O) := ⟨fun h => h⟩
def kAnd (u : DT) (Γ : Gm) (R : Bool → Oh → Prop) (xe : DX) : Bool → Oh → Prop := fun b O => if b = true then u Γ O R xe else R false O
instance {R : Bool → Oh → Prop} {Γ : Gm} {O : Oh} {xe : DX} {t u : DT} : Go (dAnd t u Γ O R xe) (t Γ O (kAnd u Γ R xe) xe) := ⟨fun h => h⟩
instance {R : Bool → Oh → Prop} {Γ : Gm} {O : Oh} {xe : DX} {u : DT} : Go (kAnd u Γ R xe true O) (u Γ O R xe) := ⟨fun h => by unfold kAnd; rw [if_pos rfl]; exact h⟩
instance {R : Bool → Oh → Prop} {Γ : Gm} {O : Oh} {xe : DX} {u : DT} : Go (kAnd u Γ R xe false O) (R false O) := ⟨fun h => by unfold kAnd; rw [if_neg Bool.false_ne_true]; exact h⟩
def kOr (u : DT) (Γ : Gm) (R : Bool → Oh → Prop) (xe : DX) : Bool → Oh → Prop := fun b O => if b = true then R true O else u Γ O R xe
instance {R : Bool → Oh → Prop} {Γ : Gm} {O : Oh} {xe : DX} {t u : DT} : Go (dOr t u Γ O R xe) (t Γ O (kOr u Γ R xe) xe) := ⟨fun h => h⟩
instance {R : Bool → Oh → Prop} {Γ : Gm} {O : Oh} {xe : DX} {u : DT} : Go (kOr u Γ R xe true O) (R true O) := ⟨fun h => by unfold kOr; rw [if_pos rfl]; exact h⟩
instance {R : Bool → Oh → Prop} {Γ : Gm} {O : Oh} {xe : DX} {u : DT} : Go (kOr u Γ R xe false O) (u Γ O R xe) := ⟨fun h => by unfold kOr; rw [if_neg Bool.false_ne_true]; exact h⟩
def kNot (R : Bool → Oh → Prop) : Bool → Oh → Prop := fun b O => R (!b) O
instance {R : Bool → Oh → Prop} {Γ : Gm} {O : Oh} {xe : DX} {t : DT} : Go (dNot t Γ O R xe) (t Γ O (kNot R) xe) := ⟨fun h => h⟩
instance {R : Bool → Oh → Prop} {O : Oh} : Go (kNot R true O) (R false O) := ⟨fun h => h⟩
instance {R : Bool → Oh → Prop} {O : Oh} : Go (kNot R false O) (R true O) := ⟨fun h => h⟩
def kAndV (wb : DEx) (Γ : Gm) (R : DK) (xe : DX) : DK := fun r O => match r with
  | .d (.bool b) => if b = true then wb Γ O R xe else R (.d (.bool false)) O
  | _ => False
instance {R : DK} {Γ : Gm} {O : Oh} {xe : DX} {wa wb : DEx} : Go (dAndV wa wb Γ O R xe) (wa Γ O (kAndV wb Γ R xe) xe) := ⟨fun h => h⟩
instance {R : DK} {Γ : Gm} {O : Oh} {xe : DX} {wb : DEx} : Go (kAndV wb Γ R xe (.d (.bool true)) O) (wb Γ O R xe) := ⟨fun h => by unfold kAndV; dsimp only; rw [if_pos rfl]; exact h⟩
instance {R : DK} {Γ : Gm} {O : Oh} {xe : DX} {wb : DEx} : Go (kAndV wb Γ R xe (.d (.bool false)) O) (R (.d (.bool false)) O) := ⟨fun h => by unfold kAndV; dsimp only; rw [if_neg Bool.false_ne_true]; exact h⟩
def kOrV (wb : DEx) (Γ : Gm) (R : DK) (xe : DX) : DK := fun r O => match r with
  | .d (.bool b) => if b = true then R (.d (.bool true)) O else wb Γ O R xe
  | _ => False
instance {R : DK} {Γ : Gm} {O : Oh} {xe : DX} {wa wb : DEx} : Go (dOrV wa wb Γ O R xe) (wa Γ O (kOrV wb Γ R xe) xe) := ⟨fun h => h⟩
instance {R : DK} {Γ : Gm} {O : Oh} {xe : DX} {wb : DEx} : Go (kOrV wb Γ R xe (.d (.bool true)) O) (R (.d (.bool true)) O) := ⟨fun h => by unfold kOrV; dsimp only; rw [if_pos rfl]; exact h⟩
instance {R : DK} {Γ : Gm} {O : Oh} {xe : DX} {wb : DEx} : Go (kOrV wb Γ R xe (.d (.bool false)) O) (wb Γ O R xe) := ⟨fun h => by unfold kOrV; dsimp only; rw [if_neg Bool.false_ne_true]; exact h⟩
def kNotV (R : DK) : DK := fun r O => match r with
  | .d (.bool b) => R (.d (.bool (!b))) O
  | _ => False
instance {R : DK} {Γ : Gm} {O : Oh} {xe : DX} {w : DEx} : Go (dNotV w Γ O R xe) (w Γ O (kNotV R) xe) := ⟨fun h => h⟩
instance {R : DK} {O : Oh} {b : Bool} : Go (kNotV R (.d (.bool b)) O) (R (.d (.bool (!b))) O) := ⟨fun h => h⟩
def kIfE (wa wb : DEx) (Γ : Gm) (R : DK) (xe : DX) : Bool → Oh → Prop := fun b O => if b = true then wa Γ O R xe else wb Γ O R xe
instance {R : DK} {Γ : Gm} {O : Oh} {xe : DX} {t : DT} {wa wb : DEx} : Go (dIfE t wa wb Γ O R xe) (t Γ O (kIfE wa wb Γ R xe) xe) := ⟨fun h => h⟩
instance {R : DK} {Γ : Gm} {O : Oh} {xe : DX} {wa wb : DEx} : Go (kIfE wa wb Γ R xe true O) (wa Γ O R xe) := ⟨fun h => by unfold kIfE; rw [if_pos rfl]; exact h⟩
instance {R : DK} {Γ : Gm} {O : Oh} {xe : DX} {wa wb : DEx} : Go (kIfE wa wb Γ R xe false O) (wb Γ O R xe) := ⟨fun h => by unfold kIfE; rw [if_neg Bool.false_ne_true]; exact h⟩
instance {R : List W → Oh → Prop} {Γ : Gm} {O : Oh} {xe : DX} : Go (dNil Γ O R xe) (R [] O) := ⟨fun h => h⟩
def kCons2 (x : W) (R : List W → Oh → Prop) : List W → Oh → Prop := fun xs O => R (x :: xs) O
def kCons1 (ws : DA) (Γ : Gm) (R : List W → Oh → Prop) (xe : DX) : DK := fun x O => ws Γ O (kCons2 x R) xe
instance {R : List W → Oh → Prop} {Γ : Gm} {O : Oh} {xe : DX} {wa : DEx} {ws : DA} : Go (dCons wa ws Γ O R xe) (wa Γ O (kCons1 ws Γ R xe) xe) := ⟨fun h => h⟩
instance {R : List W → Oh → Prop} {Γ : Gm} {O : Oh} {xe : DX} {x : W} {ws : DA} : Go (kCons1 ws Γ R xe x O) (ws Γ O (kCons2 x R) xe) := ⟨fun h => h⟩
instance {R : List W → Oh → Prop} {O : Oh} {x : W} {xs : List W} : Go (kCons2 x R xs O) (R (x :: xs) O) := ⟨fun h => h⟩
def kTup (R : DK) : List W → Oh → Prop := fun ws O => match datas ws with
  | some ds => ds.length ≤ 1000000 ∧ R (.d (.tuple ds)) O
  | none => False
instance {R : DK} {Γ : Gm} {O : Oh} {xe : DX} {ws : DA} : Go (dTup ws Γ O R xe) (ws Γ O (kTup R) xe) := ⟨fun h => h⟩
theorem go_tuple {R : DK} {O : Oh} {ws : List W} {ds : List PyData} [d : Dats ws ds] [z : Sz ds] (h : R (.d (.tuple ds)) O) : kTup R ws O := by unfold kTup; rw [d.e]; exact ⟨z.e, h⟩
instance {R : DK} {O : Oh} {ws : List W} {ds : List PyData} [d : Dats ws ds] [z : Sz ds] : Go (kTup R ws O) (R (.d (.tuple ds)) O) := ⟨go_tuple⟩
def kLst (R : DK) : List W → Oh → Prop := fun ws O => match datas ws with
  | some ds => ds.length ≤ 1000000 ∧ R (.d (.list ds)) O
  | none => False
instance {R : DK} {Γ : Gm} {O : Oh} {xe : DX} {ws : DA} : Go (dLst ws Γ O R xe) (ws Γ O (kLst R) xe) := ⟨fun h => h⟩
theorem go_list {R : DK} {O : Oh} {ws : List W} {ds : List PyData} [d : Dats ws ds] [z : Sz ds] (h : R (.d (.list ds)) O) : kLst R ws O := by unfold kLst; rw [d.e]; exact ⟨z.e, h⟩
instance {R : DK} {O : Oh} {ws : List W} {ds : List PyData} [d : Dats ws ds] [z : Sz ds] : Go (kLst R ws O) (R (.d (.list ds)) O) := ⟨go_list⟩
def kLstC (R : DK) : List W → Oh → Prop := fun ws O => ws.length ≤ 1000000 ∧ R (.c O.length) (O ++ [.lst ws])
instance {R : DK} {Γ : Gm} {O : Oh} {xe : DX} {ws : DA} : Go (dLstC ws Γ O R xe) (ws Γ O (kLstC R) xe) := ⟨fun h => h⟩
theorem go_lstC {R : DK} {O O' : Oh} {j : Nat} {ws : List W} [z : Sz ws] [n : Nw O (.lst ws) j O'] (h : R (.c j) O') : kLstC R ws O := by refine ⟨z.e, ?_⟩; rw [n.e.1, n.e.2]; exact h
instance {R : DK} {O O' : Oh} {j : Nat} {ws : List W} [z : Sz ws] [n : Nw O (.lst ws) j O'] : Go (kLstC R ws O) (R (.c j) O') := ⟨go_lstC⟩
theorem go_dicK {R : DK} {O O' : Oh} {Γ : Gm} {xe : DX} {j : Nat} [n : Nw O (.dic []) j O'] (h : R (.c j) O') : dDicK Γ O R xe := by unfold dDicK; rw [n.e.1, n.e.2]; exact h
instance {R : DK} {O O' : Oh} {Γ : Gm} {xe : DX} {j : Nat} [n : Nw O (.dic []) j O'] : Go (dDicK Γ O R xe) (R (.c j) O') := ⟨go_dicK⟩
instance {R : DK} {O O' : Oh} {Γ : Gm} {xe : DX} {j : Nat} [n : Nw O (.dct []) j O'] : Go (dDicT Γ O R xe) (R (.c j) O') := ⟨fun h => by unfold dDicT; rw [n.e.1, n.e.2]; exact h⟩
instance {R : DK} {Γ : Gm} {O : Oh} {xe : DX} : Go (dDicE Γ O R xe) (R (.d (.dict [])) O) := ⟨fun h => h⟩
def kCB (f : DC) (R : DK) : List W → Oh → Prop := fun xs O => f xs O R
instance {R : DK} {Γ : Gm} {O : Oh} {xe : DX} {f : DC} {ws : DA} : Go (dCB f ws Γ O R xe) (ws Γ O (kCB f R) xe) := ⟨fun h => h⟩
instance {R : DK} {O : Oh} {f : DC} {xs : List W} : Go (kCB f R xs O) (f xs O R) := ⟨fun h => h⟩
def kC0 (f : DFn) (R : DK) : List W → Oh → Prop := fun xs O => f xs O R fun _ _ => False
instance {R : DK} {Γ : Gm} {O : Oh} {xe : DX} {f : DFn} {ws : DA} : Go (dCall0 f ws Γ O R xe) (ws Γ O (kC0 f R) xe) := ⟨fun h => h⟩
instance {R : DK} {O : Oh} {f : DFn} {xs : List W} : Go (kC0 f R xs O) (f xs O R fun _ _ => False) := ⟨fun h => h⟩
def kC (f : DFn) (Γ : Gm) (R : DK) (xe : DX) : List W → Oh → Prop := fun xs O => f xs O R fun ex O2 => xe ex Γ O2
instance {R : DK} {Γ : Gm} {O : Oh} {xe : DX} {f : DFn} {ws : DA} : Go (dCall f ws Γ O R xe) (ws Γ O (kC f Γ R xe) xe) := ⟨fun h => h⟩
instance {R : DK} {Γ : Gm} {O : Oh} {xe : DX} {f : DFn} {xs : List W} : Go (kC f Γ R xe xs O) (f xs O R fun ex O2 => xe ex Γ O2) := ⟨fun h => h⟩
def kNeg (R : DK) : DK := fun r O => match r with
  | .d (.int i) => R (.d (.int (-i))) O
  | _ => False
instance {R : DK} {Γ : Gm} {O : Oh} {xe : DX} {w : DEx} : Go (dNeg w Γ O R xe) (w Γ O (kNeg R) xe) := ⟨fun h => h⟩
instance {R : DK} {O : Oh} {i : Int} : Go (kNeg R (.d (.int i)) O) (R (.d (.int (-i))) O) := ⟨fun h => h⟩
/-- what type a thing has -/
class TyW (x : W) (O : Oh) (t : outParam String) : Prop where
  e : tyW x O = some t
instance {O : Oh} : TyW (.d (.none)) O "NoneType" := ⟨rfl⟩
instance {b : Bool} {O : Oh} : TyW (.d (.bool b)) O "bool" := ⟨rfl⟩
instance {i : Int} {O : Oh} : TyW (.d (.int i)) O "int" := ⟨rfl⟩
instance {s : Str} {O : Oh} : TyW (.d (.str s)) O "str" := ⟨rfl⟩
instance {l : List PyData} {O : Oh} : TyW (.d (.list l)) O "list" := ⟨rfl⟩
instance {l : List PyData} {O : Oh} : TyW (.d (.tuple l)) O "tuple" := ⟨rfl⟩
instance {O : Oh} : TyW (.d (.dict [])) O "dict" := ⟨rfl⟩
class SubT (t T : String) (b : outParam Bool) : Prop where
  e : subT t T = b
instance : SubT "NoneType" "bool" false := ⟨by decide⟩
instance : SubT "NoneType" "int" false := ⟨by decide⟩
instance : SubT "NoneType" "str" false := ⟨by decide⟩
instance : SubT "NoneType" "list" false := ⟨by decide⟩
instance : SubT "NoneType" "tuple" false := ⟨by decide⟩
instance : SubT "NoneType" "dict" false := ⟨by decide⟩
instance : SubT "bool" "bool" true := ⟨by decide⟩
instance : SubT "bool" "int" true := ⟨by decide⟩
instance : SubT "bool" "str" false := ⟨by decide⟩
instance : SubT "bool" "list" false := ⟨by decide⟩
instance : SubT "bool" "tuple" false := ⟨by decide⟩
instance : SubT "bool" "dict" false := ⟨by decide⟩
instance : SubT "int" "bool" false := ⟨by decide⟩
instance : SubT "int" "int" true := ⟨by decide⟩
instance : SubT "int" "str" false := ⟨by decide⟩
instance : SubT "int" "list" false := ⟨by decide⟩
instance : SubT "int" "tuple" false := ⟨by decide⟩
instance : SubT "int" "dict" false := ⟨by decide⟩
instance : SubT "str" "bool" false := ⟨by decide⟩
instance : SubT "str" "int" false := ⟨by decide⟩
instance : SubT "str" "str" true := ⟨by decide⟩
instance : SubT "str" "list" false := ⟨by decide⟩
instance : SubT "str" "tuple" false := ⟨by decide⟩
instance : SubT "str" "dict" false := ⟨by decide⟩
instance : SubT "list" "bool" false := ⟨by decide⟩
instance : SubT "list" "int" false := ⟨by decide⟩
instance : SubT "list" "str" false := ⟨by decide⟩
instance : SubT "list" "list" true := ⟨by decide⟩
instance : SubT "list" "tuple" false := ⟨by decide⟩
instance : SubT "list" "dict" false := ⟨by decide⟩
instance : SubT "tuple" "bool" false := ⟨by decide⟩
instance : SubT "tuple" "int" false := ⟨by decide⟩
instance : SubT "tuple" "str" false := ⟨by decide⟩
instance : SubT "tuple" "list" false := ⟨by decide⟩
instance : SubT "tuple" "tuple" true := ⟨by decide⟩
instance : SubT "tuple" "dict" false := ⟨by decide⟩
instance : SubT "dict" "bool" false := ⟨by decide⟩
instance : SubT "dict" "int" false := ⟨by decide⟩
instance : SubT "dict" "str" false := ⟨by decide⟩
instance : SubT "dict" "list" false := ⟨by decide⟩
instance : SubT "dict" "tuple" false := ⟨by decide⟩
instance : SubT "dict" "dict" true := ⟨by decide⟩
def kIsi (T : String) (R : DK) : DK := fun x O => match tyW x O with
  | some t => R (.d (.bool (subT t T))) O
  | none => False
instance {R : DK} {Γ : Gm} {O : Oh} {xe : DX} {T : String} {w : DEx} : Go (dIsi T w Γ O R xe) (w Γ O (kIsi T R) xe) := ⟨fun h => h⟩
theorem go_isi {R : DK} {O : Oh} {T t : String} {x : W} {b : Bool} [h1 : TyW x O t] [h2 : SubT t T b] (h : R (.d (.bool b)) O) : kIsi T R x O := by unfold kIsi; rw [h1.e]; dsimp only; rw [h2.e]; exact h
instance {R : DK} {O : Oh} {T t : String} {x : W} {b : Bool} [h1 : TyW x O t] [h2 : SubT t T b] : Go (kIsi T R x O) (R (.d (.bool b)) O) := ⟨go_isi⟩
/-! #### slices, ends -/
instance {R : Option Int → Oh → Prop} {Γ : Gm} {O : Oh} {xe : DX} : Go (dO0 Γ O R xe) (R none O) := ⟨fun h => h⟩
def kO1 (R : Option Int → Oh → Prop) : DK := fun x O => match x with
  | .d (.int i) => R (some i) O
  | _ => False
instance {R : Option Int → Oh → Prop} {Γ : Gm} {O : Oh} {xe : DX} {w : DEx} : Go (dO1 w Γ O R xe) (w Γ O (kO1 R) xe) := ⟨fun h => h⟩
instance {R : Option Int → Oh → Prop} {O : Oh} {i : Int} : Go (kO1 R (.d (.int i)) O) (R (some i) O) := ⟨fun h => h⟩
def kSl3 (x : W) (lo : Option Int) (R : DK) : Option Int → Oh → Prop := fun hi O => dSl x lo hi O R
def kSl2 (x : W) (wh : DO) (Γ : Gm) (R : DK) (xe : DX) : Option Int → Oh → Prop := fun lo O => wh Γ O (kSl3 x lo R) xe
def kSl1 (wl wh : DO) (Γ : Gm) (R : DK) (xe : DX) : DK := fun x O => wl Γ O (kSl2 x wh Γ R xe) xe
instance {R : DK} {Γ : Gm} {O : Oh} {xe : DX} {wo : DEx} {wl wh : DO} : Go (dSlice wo wl wh Γ O R xe) (wo Γ O (kSl1 wl wh Γ R xe) xe) := ⟨fun h => h⟩
instance {R : DK} {Γ : Gm} {O : Oh} {xe : DX} {x : W} {wl wh : DO} : Go (kSl1 wl wh Γ R xe x O) (wl Γ O (kSl2 x wh Γ R xe) xe) := ⟨fun h => h⟩
instance {R : DK} {Γ : Gm} {O : Oh} {xe : DX} {x : W} {wh : DO} {lo : Option Int} : Go (kSl2 x wh Γ R xe lo O) (wh Γ O (kSl3 x lo R) xe) := ⟨fun h => h⟩
instance {R : DK} {O : Oh} {x : W} {lo hi : Option Int} : Go (kSl3 x lo R hi O) (dSl x lo hi O R) := ⟨fun h => h⟩
instance {R : DK} {O : Oh} {ds : List PyData} {lo hi : Option Int} : Go (dSl (.d (.tuple ds)) lo hi O R) (R (.d (.tuple (cutL ds lo hi))) O) := ⟨fun h => h⟩
instance {R : DK} {O : Oh} {ds : List PyData} {lo hi : Option Int} : Go (dSl (.d (.list ds)) lo hi O R) (R (.d (.list (cutL ds lo hi))) O) := ⟨fun h => h⟩
class AsL (x : W) (O : Oh) (ws : outParam (List W)) : Prop where
  e : asL x O = some ws
instance {O : Oh} {ds : List PyData} {ws : List W} [m : MapD ds ws] : AsL (.d (.list ds)) O ws := ⟨by rw [← m.e]; rfl⟩
instance {O : Oh} {j : Nat} {ws : List W} [g : Cl O j (.lst ws)] : AsL (.c j) O ws := ⟨by unfold asL; dsimp only; rw [g.e]⟩
class AsS (x : W) (O : Oh) (ws : outParam (List W)) : Prop where
  e : asS x O = some ws
instance {O : Oh} {ds : List PyData} {ws : List W} [m : MapD ds ws] : AsS (.d (.list ds)) O ws := ⟨by rw [← m.e]; rfl⟩
instance {O : Oh} {ds : List PyData} {ws : List W} [m : MapD ds ws] : AsS (.d (.tuple ds)) O ws := ⟨by rw [← m.e]; rfl⟩
instance {O : Oh} {ds : List PyData} {ws : List W} [m : MapD ds ws] : AsS (.p ds) O ws := ⟨by rw [← m.e]; rfl⟩
instance {O : Oh} {j : Nat} {ws : List W} [g : Cl O j (.lst ws)] : AsS (.c j) O ws := ⟨by unfold asS; dsimp only; rw [g.e]⟩
instance {O : Oh} {ns : List Int} : AsS (.d (.dict [(.none, .list (ns.map PyData.int))])) O ((ns.map PyData.int).map W.d) := ⟨rfl⟩
class NoDk (x : W) (O : Oh) : Prop where
  e : asDk x O = none
instance {O : Oh} : NoDk (.d .none) O := ⟨rfl⟩
instance {O : Oh} {b : Bool} : NoDk (.d (.bool b)) O := ⟨rfl⟩
instance {O : Oh} {i : Int} : NoDk (.d (.int i)) O := ⟨rfl⟩
instance {O : Oh} {s : Str} : NoDk (.d (.str s)) O := ⟨rfl⟩
instance {O : Oh} {l : List PyData} : NoDk (.d (.list l)) O := ⟨rfl⟩
instance {O : Oh} {l : List PyData} : NoDk (.d (.tuple l)) O := ⟨rfl⟩
instance {O : Oh} {l : PyData} : NoDk (.d (.dict [(.none, l)])) O := ⟨rfl⟩
instance {O : Oh} {ds : List PyData} : NoDk (.p ds) O := ⟨rfl⟩
instance {O : Oh} {j : Nat} {ws : List W} [g : Cl O j (.lst ws)] : NoDk (.c j) O := ⟨by unfold asDk; dsimp only; rw [g.e]⟩
class IsDk (x : W) (O : Oh) (kvs : outParam (List (Key × W))) : Prop where
  e : asDk x O = some kvs
instance {O : Oh} {j : Nat} {kvs : List (Key × W)} [g : Cl O j (.dic kvs)] : IsDk (.c j) O kvs := ⟨by unfold asDk; dsimp only; rw [g.e]⟩
instance {O : Oh} {j : Nat} {od : Obj} {es : List (Key × V)} {kvs : List (Key × W)} [g : Cl O j (.ldic od es kvs)] : IsDk (.c j) O kvs := ⟨by unfold asDk; dsimp only; rw [g.e]⟩
class NoDi (x : W) (O : Oh) : Prop where
  e : isDictW x O = false
instance {O : Oh} : NoDi (.d .none) O := ⟨rfl⟩
instance {O : Oh} {b : Bool} : NoDi (.d (.bool b)) O := ⟨rfl⟩
instance {O : Oh} {i : Int} : NoDi (.d (.int i)) O := ⟨rfl⟩
instance {O : Oh} {s : Str} : NoDi (.d (.str s)) O := ⟨rfl⟩
instance {O : Oh} {l : List PyData} : NoDi (.d (.list l)) O := ⟨rfl⟩
instance {O : Oh} {l : List PyData} : NoDi (.d (.tuple l)) O := ⟨rfl⟩
instance {O : Oh} {l : PyData} : NoDi (.d (.dict [(.none, l)])) O := ⟨rfl⟩
instance {O : Oh} {ds : List PyData} : NoDi (.p ds) O := ⟨rfl⟩
instance {O : Oh} {j : Nat} {ws : List W} [g : Cl O j (.lst ws)] : NoDi (.c j) O := ⟨by unfold isDictW asDk asDt; dsimp only; rw [g.e]; rfl⟩
/-- a list, not of literal shape, is the answer -/
theorem sl_own {x : W} {O : Oh} {ws : List W} {ds : List PyData} {lo hi : Option Int} {R : DK} {j : Nat} [g : Cl O j (.lst ws)] [d : Dats ws ds] (h : R (.d (.list (cutL ds lo hi))) O) : dSl (.c j) lo hi O R := by
  have e : asL (.c j) O = some ws := by unfold asL; dsimp only; rw [g.e]
  unfold dSl
  dsimp only
  rw [e]
  dsimp only
  rw [d.e]
  exact h
instance {O : Oh} {ws : List W} {ds : List PyData} {lo hi : Option Int} {R : DK} {j : Nat} [g : Cl O j (.lst ws)] [d : Dats ws ds] : Go (dSl (.c j) lo hi O R) (R (.d (.list (cutL ds lo hi))) O) := ⟨sl_own (x := .c j)⟩
def kRevL (R : DK) : DK := fun x O => match asL x O with
  | some ws => (match datas ws with
    | some ds => R (.d (.list ds.reverse)) O
    | none => False)
  | none => False
instance {R : DK} {Γ : Gm} {O : Oh} {xe : DX} {w : DEx} : Go (dRevL w Γ O R xe) (w Γ O (kRevL R) xe) := ⟨fun h => h⟩
instance {R : DK} {O : Oh} {x : W} {ws : List W} {ds : List PyData} [a : AsL x O ws] [d : Dats ws ds] : Go (kRevL R x O) (R (.d (.list ds.reverse)) O) := ⟨fun h => by unfold kRevL; rw [a.e]; dsimp only; rw [d.e]; exact h⟩
/-! #### subscripts -/
theorem ix2_of {x : W} {O : Oh} {ws : List W} {i : Int} {w : W} {R : DK} [n : NoDi x O] [a : AsS x O ws] (hi : atI ws i = some w) (h : R w O) : dIx2 x (.d (.int i)) O R := by
  unfold dIx2
  rw [if_neg (by rw [n.e]; exact Bool.false_ne_true)]
  unfold dIx
  split
  · have := a.e; cases this
  · next e1 e2 =>
    cases e2
    rw [a.e]
    dsimp only
    rw [hi]
    exact h
  · next h1 _ => exact (h1 _ rfl).elim
theorem atI_nat {α : Type} {ws : List α} {m : Nat} {w : α} (h : ws[m]? = some w) : atI ws (m : Nat) = some w := by
  have hl := (List.getElem?_eq_some_iff.mp h).1
  unfold atI ixN
  simp [hl]
  exact (List.getElem?_eq_some_iff.mp h).2
/-! #### operators -/
instance {R : DK} {O : Oh} {i j : Int} {g : Int → Int → PyData} : Go (dI20 g (.d (.int i)) (.d (.int j)) O R) (R (.d (g i j)) O) := ⟨fun h => h⟩
instance {R : DK} {O : Oh} {i j : Int} {C : Int → Int → Prop} {g : Int → Int → PyData} : Go (dI2 C g (.d (.int i)) (.d (.int j)) O R) (C i j ∧ R (.d (g i j)) O) := ⟨fun h => h⟩
instance {R : DK} {O : Oh} {i j : Int} : Go (dAdd (.d (.int i)) (.d (.int j)) O R) (R (.d (.int (i + j))) O) := ⟨fun h => h⟩
instance {R : DK} {O : Oh} {i j : Int} : Go (dLt2 (.d (.int i)) (.d (.int j)) O R) (R (.d (.bool (decide (i < j)))) O) := ⟨fun h => h⟩
instance {R : DK} {O : Oh} {i j : Int} : Go (dGt2 (.d (.int i)) (.d (.int j)) O R) (R (.d (.bool (decide (j < i)))) O) := ⟨fun h => h⟩
theorem bcase {R : Bool → Oh → Prop} {O : Oh} (b : Bool) (h1 : b = true → R true O) (h2 : b = false → R false O) : R b O := by
  cases b with
  | true => exact h1 rfl
  | false => exact h2 rfl
theorem dcase {R : Bool → Oh → Prop} {O : Oh} {p : Prop} [i : Decidable p] (h1 : p → R true O) (h2 : ¬ p → R false O) : R (decide p) O := by
  by_cases z : p
  · rw [decide_eq_true z]; exact h1 z
  · rw [decide_eq_false z]; exact h2 z
instance {O : Oh} {R : DK} {i j : Int} : Go (dEq (.d (.int i)) (.d (.int j)) O R) (R (.d (.bool (decide (i = j)))) O) := ⟨fun h => ⟨rfl, rfl, by
  have e : PyData.eqv (.int i) (.int j) = decide (i = j) := by simp [PyData.eqv]; rfl
  rw [e]; exact h⟩⟩
instance {O : Oh} {R : DK} {i j : Int} : Go (dNe (.d (.int i)) (.d (.int j)) O R) (R (.d (.bool (decide (i ≠ j)))) O) := ⟨fun h => ⟨rfl, rfl, by
  rw [decide_not] at h
  have e : PyData.eqv (.int i) (.int j) = decide (i = j) := by simp [PyData.eqv]; rfl
  rw [e]; exact h⟩⟩
theorem eqv_str (a b : Str) : PyData.eqv (.str a) (.str b) = decide (a = b) := by
  unfold PyData.eqv
  by_cases z : a = b
  · subst z; simp
  · simp [z]
instance {O : Oh} {R : DK} {i j : Str} : Go (dEq (.d (.str i)) (.d (.str j)) O R) (R (.d (.bool (decide (i = j)))) O) := ⟨fun h => ⟨rfl, rfl, by
  rw [eqv_str]; exact h⟩⟩
instance {O : Oh} {R : DK} {i j : Str} : Go (dNe (.d (.str i)) (.d (.str j)) O R) (R (.d (.bool (decide (i ≠ j)))) O) := ⟨fun h => ⟨rfl, rfl, by
  rw [decide_not] at h
  rw [eqv_str]; exact h⟩⟩
instance {O : Oh} {R : DK} {i j : Int} : Go (dMax [.d (.int i), .d (.int j)] O R) (R (.d (.int (if j > i then j else i))) O) := ⟨fun h => h⟩
instance {O : Oh} {R : DK} {i j : Int} : Go (dMin [.d (.int i), .d (.int j)] O R) (R (.d (.int (if j < i then j else i))) O) := ⟨fun h => h⟩
instance {O : Oh} {R : DK} {i : Int} : Go (dAbs [.d (.int i)] O R) (R (.d (.int (if i < 0 then -i else i))) O) := ⟨fun h => h⟩
class NStr (x : W) : Prop where
  e : ∀ s, x ≠ .d (.str s)
instance {l : List PyData} : NStr (.d (.list l)) := ⟨fun s h => by cases h⟩
instance {l : List PyData} : NStr (.d (.tuple l)) := ⟨fun s h => by cases h⟩
instance {l : List (PyData × PyData)} : NStr (.d (.dict l)) := ⟨fun s h => by cases h⟩
instance {j : Nat} : NStr (.c j) := ⟨fun s h => by cases h⟩
theorem go_len {O : Oh} {R : DK} {x : W} {ws : List W} [n : NStr x] [a : AsS x O ws] (h : R (.d (.int (ws.length : Nat))) O) : dLen [x] O R := by
  unfold dLen
  split
  · next e => cases e; exact (n.e _ rfl).elim
  · next e => cases e; rw [a.e]; exact h
  · next h1 h2 => exact (h2 _ rfl).elim
instance {O : Oh} {R : DK} {x : W} {ws : List W} [n : NStr x] [a : AsS x O ws] : Go (dLen [x] O R) (R (.d (.int (ws.length : Nat))) O) := ⟨go_len⟩
theorem go_tupOf {O : Oh} {R : DK} {x : W} {ws : List W} {ds : List PyData} [a : AsL x O ws] [d : Dats ws ds] (h : R (.d (.tuple ds)) O) : dTupOf [x] O R := by
  unfold dTupOf
  split
  · next e => cases e; have := a.e; cases this
  · next e => cases e; rw [a.e]; dsimp only; rw [d.e]; exact h
  · next h1 h2 => exact (h2 _ rfl).elim
instance {O : Oh} {R : DK} {x : W} {ws : List W} {ds : List PyData} [a : AsL x O ws] [d : Dats ws ds] : Go (dTupOf [x] O R) (R (.d (.tuple ds)) O) := ⟨go_tupOf⟩
instance {O : Oh} {R : DK} {ds : List PyData} : Go (dTupOf [.d (.tuple ds)] O R) (R (.d (.tuple ds)) O) := ⟨fun h => h⟩
instance {O : Oh} {R : DK} {x : W} {ws : List W} {ds : List PyData} [n : NoDk x O] [a : AsS x O ws] [d : Dats ws ds] : Go (dListOf2 [x] O R) (R (.d (.list ds)) O) := ⟨fun h => by
  unfold dListOf2; dsimp only; rw [n.e]; dsimp only; unfold dListOf; dsimp only; rw [a.e]; dsimp only; rw [d.e]; exact h⟩
theorem go_listC {O O' : Oh} {R : DK} {x : W} {ws : List W} {j : Nat} [k : NoDk x O] [a : AsS x O ws] [n : Nw O (.lst ws) j O'] (h : R (.c j) O') : dListC2 [x] O R := by
  unfold dListC2; dsimp only; rw [k.e]; dsimp only; unfold dListC; dsimp only; rw [a.e]; dsimp only; rw [n.e.1, n.e.2]; exact h
instance {O O' : Oh} {R : DK} {x : W} {ws : List W} {j : Nat} [k : NoDk x O] [a : AsS x O ws] [n : Nw O (.lst ws) j O'] : Go (dListC2 [x] O R) (R (.c j) O') := ⟨go_listC⟩
/-! #### methods -/
def kBM2 (f : DM) (x : W) (R : DK) : List W → Oh → Prop := fun xs O => f x xs O R
def kBM1 (tw : W → Oh → Bool) (f : DM) (ws : DA) (Γ : Gm) (R : DK) (xe : DX) : DK := fun x O => tw x O = true ∧ ws Γ O (kBM2 f x R) xe
instance {R : DK} {Γ : Gm} {O : Oh} {xe : DX} {tw : W → Oh → Bool} {f : DM} {wo : DEx} {ws : DA} : Go (dBM tw f wo ws Γ O R xe) (wo Γ O (kBM1 tw f ws Γ R xe) xe) := ⟨fun h => h⟩
class Tw (tw : W → Oh → Bool) (x : W) (O : Oh) : Prop where
  e : tw x O = true
instance {O : Oh} {j : Nat} {ws : List W} [g : Cl O j (.lst ws)] : Tw isLstW (.c j) O := ⟨by unfold isLstW; dsimp only; rw [g.e]⟩
instance {O : Oh} {ds : List PyData} : Tw isLstW (.d (.list ds)) O := ⟨rfl⟩
instance {O : Oh} {s : Str} : Tw isStrW (.d (.str s)) O := ⟨rfl⟩
instance {O : Oh} {j : Nat} {ws : List (Key × W)} [g : Cl O j (.dic ws)] : Tw isDicW (.c j) O := ⟨by unfold isDicW; dsimp only; rw [g.e]⟩
instance {O : Oh} {j : Nat} {ws : List (List Key × W)} [g : Cl O j (.dct ws)] : Tw isDicW (.c j) O := ⟨by unfold isDicW; dsimp only; rw [g.e]⟩
instance {R : DK} {Γ : Gm} {O : Oh} {xe : DX} {tw : W → Oh → Bool} {f : DM} {ws : DA} {x : W} [t : Tw tw x O] : Go (kBM1 tw f ws Γ R xe x O) (ws Γ O (kBM2 f x R) xe) := ⟨fun h => ⟨t.e, h⟩⟩
instance {R : DK} {O : Oh} {f : DM} {x : W} {xs : List W} : Go (kBM2 f x R xs O) (f x xs O R) := ⟨fun h => h⟩
theorem go_append {O O' : Oh} {R : DK} {j : Nat} {y : W} {ws ws' : List W} [g : Cl O j (.lst ws)] (hz : ws.length < 1000000) (e : ws ++ [y] = ws') [s : St O j (.lst ws') O'] (h : R (.d .none) O') : dAppend (.c j) [y] O R := by
  unfold dAppend; dsimp only; rw [g.e]; dsimp only; rw [e, s.e]; exact ⟨hz, h⟩
theorem go_popAt {O O' : Oh} {R : DK} {j m : Nat} {i : Int} {y : W} {ws ws' : List W} [g : Cl O j (.lst ws)] (hz : ws.length ≤ 1000000) (hi : ixN ws.length i = some m) (hy : ws[m]? = some y) (e : ws.eraseIdx m = ws') [s : St O j (.lst ws') O'] (h : R y O') : dPopAt (.c j) [.d (.int i)] O R := by
  unfold dPopAt; dsimp only; rw [g.e]; dsimp only; rw [hi]; dsimp only; rw [hy]; dsimp only; rw [e, s.e]; exact ⟨hz, h⟩
def kTM2 (f : DM) (x : W) (R : DK) : List W → Oh → Prop := fun xs O => f x xs O R
def kTM1 (f : DM) (ws : DA) (Γ : Gm) (R : DK) (xe : DX) : DK := fun o O => match o with
  | .d (.tuple ds) => ws Γ O (kTM2 f (.d (.tuple ds)) R) xe
  | _ => False
instance {R : DK} {Γ : Gm} {O : Oh} {xe : DX} {f : DM} {wo : DEx} {ws : DA} : Go (dTM f wo ws Γ O R xe) (wo Γ O (kTM1 f ws Γ R xe) xe) := ⟨fun h => h⟩
instance {R : DK} {Γ : Gm} {O : Oh} {xe : DX} {f : DM} {ws : DA} {ds : List PyData} : Go (kTM1 f ws Γ R xe (.d (.tuple ds)) O) (ws Γ O (kTM2 f (.d (.tuple ds)) R) xe) := ⟨fun h => h⟩
instance {R : DK} {O : Oh} {f : DM} {x : W} {xs : List W} : Go (kTM2 f x R xs O) (f x xs O R) := ⟨fun h => h⟩
/-! #### .. is None, -set -/
instance {O : Oh} {R : DK} {neg : Bool} {x : W} : Go (dIs2 neg x (.d .none) O R) (R (.d (.bool (if neg then !isNone x else isNone x))) O) := ⟨fun h => h⟩
instance {O : Oh} {R : DK} {neg a b : Bool} : Go (dIs2 neg (.d (.bool a)) (.d (.bool b)) O R) (R (.d (.bool (if neg then !decide (a = b) else decide (a = b)))) O) := ⟨fun h => h⟩
def kLenSet (R : DK) : DK := fun x O => match asL x O with
  | some ws => (match datas ws with
    | some ds => (match strsD ds with
      | some ys => ys.length ≤ 1000 ∧ R (.d (.int ((met ys).length : Nat))) O
      | none => False)
    | none => False)
  | none => False
instance {R : DK} {Γ : Gm} {O : Oh} {xe : DX} {w : DEx} : Go (dLenSet w Γ O R xe) (w Γ O (kLenSet R) xe) := ⟨fun h => h⟩
/-! #### chains -/
def kCh4 (f : D2) (y : W) (R : DK) : DK := fun w O => f y w O R
def kCh3 (f : D2) (wc : DEx) (y : W) (Γ : Gm) (R : DK) (xe : DX) : DK := fun z O => match z with
  | .d (.bool t) => if t = true then wc Γ O (kCh4 f y R) xe else R (.d (.bool false)) O
  | _ => False
def kCh2 (f f' : D2) (wc : DEx) (x : W) (Γ : Gm) (R : DK) (xe : DX) : DK := fun y O => f x y O (kCh3 f' wc y Γ R xe)
def kCh1 (f f' : D2) (wb wc : DEx) (Γ : Gm) (R : DK) (xe : DX) : DK := fun x O => wb Γ O (kCh2 f f' wc x Γ R xe) xe
instance {R : DK} {Γ : Gm} {O : Oh} {xe : DX} {f f' : D2} {wa wb wc : DEx} : Go (dChain f f' wa wb wc Γ O R xe) (wa Γ O (kCh1 f f' wb wc Γ R xe) xe) := ⟨fun h => h⟩
instance {R : DK} {Γ : Gm} {O : Oh} {xe : DX} {f f' : D2} {wb wc : DEx} {x : W} : Go (kCh1 f f' wb wc Γ R xe x O) (wb Γ O (kCh2 f f' wc x Γ R xe) xe) := ⟨fun h => h⟩
instance {R : DK} {Γ : Gm} {O : Oh} {xe : DX} {f f' : D2} {wc : DEx} {x y : W} : Go (kCh2 f f' wc x Γ R xe y O) (f x y O (kCh3 f' wc y Γ R xe)) := ⟨fun h => h⟩
instance {R : DK} {Γ : Gm} {O : Oh} {xe : DX} {f : D2} {wc : DEx} {y : W} : Go (kCh3 f wc y Γ R xe (.d (.bool true)) O) (wc Γ O (kCh4 f y R) xe) := ⟨fun h => by unfold kCh3; dsimp only; rw [if_pos rfl]; exact h⟩
instance {R : DK} {Γ : Gm} {O : Oh} {xe : DX} {f : D2} {wc : DEx} {y : W} : Go (kCh3 f wc y Γ R xe (.d (.bool false)) O) (R (.d (.bool false)) O) := ⟨fun h => by unfold kCh3; dsimp only; rw [if_neg Bool.false_ne_true]; exact h⟩
instance {R : DK} {O : Oh} {f : D2} {y w : W} : Go (kCh4 f y R w O) (f y w O R) := ⟨fun h => h⟩
/-! #### walks -/
def kSeqI (S : List W → (Oh → Prop) → Oh → Prop) : DK := fun r O1 => match r with
  | .d (.list ds) => S (ds.map W.d) (fun _ => True) O1
  | .d (.tuple ds) => S (ds.map W.d) (fun _ => True) O1
  | .c k => match O1[k]? with
    | some (.lst ws) => S ws (fun O => O[k]? = some (.lst ws)) O1
    | _ => False
  | _ => False
instance {S : List W → (Oh → Prop) → Oh → Prop} {Γ : Gm} {O : Oh} {xe : DX} {w : DEx} : Go (dSeqI w Γ O S xe) (w Γ O (kSeqI S) xe) := ⟨fun h => h⟩
instance {S : List W → (Oh → Prop) → Oh → Prop} {O : Oh} {ds : List PyData} : Go (kSeqI S (.d (.list ds)) O) (S (ds.map W.d) (fun _ => True) O) := ⟨fun h => h⟩
instance {S : List W → (Oh → Prop) → Oh → Prop} {O : Oh} {ds : List PyData} : Go (kSeqI S (.d (.tuple ds)) O) (S (ds.map W.d) (fun _ => True) O) := ⟨fun h => h⟩
instance {S : List W → (Oh → Prop) → Oh → Prop} {O : Oh} {k : Nat} {ws : List W} [g : Cl O k (.lst ws)] : Go (kSeqI S (.c k) O) (S ws (fun O => O[k]? = some (.lst ws)) O) := ⟨fun h => by unfold kSeqI; dsimp only; rw [g.e]; exact h⟩
def kRng (S : List W → (Oh → Prop) → Oh → Prop) : List W → Oh → Prop := fun vs O1 => match vs with
  | [.d (.int j)] => j < 4611686018427387904 ∧ -4611686018427387904 ≤ j ∧ S (rgW 0 j.toNat) (fun _ => True) O1
  | _ => False
instance {S : List W → (Oh → Prop) → Oh → Prop} {Γ : Gm} {O : Oh} {xe : DX} {ws : DA} : Go (dRng1 ws Γ O S xe) (ws Γ O (kRng S) xe) := ⟨fun h => h⟩
theorem go_rng {S : List W → (Oh → Prop) → Oh → Prop} {O : Oh} {n : Nat} (hn : n < 4611686018427387904) (h : S (rgW 0 n) (fun _ => True) O) : kRng S [.d (.int (n : Nat))] O := ⟨by omega, by omega, by rw [Int.toNat_natCast]; exact h⟩
def kEnum (S : List W → (Oh → Prop) → Oh → Prop) : List W → Oh → Prop := fun xs O1 => match xs with
  | [x] => (match asFz x with
    | some ds => S (enumW 0 ds) (fun _ => True) O1
    | none => False)
  | _ => False
instance {S : List W → (Oh → Prop) → Oh → Prop} {Γ : Gm} {O : Oh} {xe : DX} {ws : DA} : Go (dEnum ws Γ O S xe) (ws Γ O (kEnum S) xe) := ⟨fun h => h⟩
instance {S : List W → (Oh → Prop) → Oh → Prop} {O : Oh} {ds : List PyData} : Go (kEnum S [.d (.tuple ds)] O) (S (enumW 0 ds) (fun _ => True) O) := ⟨fun h => h⟩
instance {S : List W → (Oh → Prop) → Oh → Prop} {O : Oh} {ds : List PyData} : Go (kEnum S [.d (.list ds)] O) (S (enumW 0 ds) (fun _ => True) O) := ⟨fun h => h⟩
def kFor (t : Tg) (body : DSt) (D : DEnds) (xe : DX) (Γ : Gm) : List W → (Oh → Prop) → Oh → Prop := fun xs ok O1 => forGo ok t body D xe xs Γ O1
instance {f b c : Gm → Oh → Prop} {r : DK} {Γ : Gm} {O : Oh} {xe : DX} {w : DI} {t : Tg} {body : DSt} : Go (dFor w t body ⟨f, r, b, c⟩ xe Γ O) (w Γ O (kFor t body ⟨f, r, b, c⟩ xe Γ) xe) := ⟨fun h => h⟩
instance {Γ : Gm} {O : Oh} {xe : DX} {D : DEnds} {t : Tg} {body : DSt} {xs : List W} {ok : Oh → Prop} : Go (kFor t body D xe Γ xs ok O) (forGo ok t body D xe xs Γ O) := ⟨fun h => h⟩
def kLc (t : Tg) (tt : DT) (we : DEx) (Γ : Gm) (R : DK) : List W → (Oh → Prop) → Oh → Prop := fun xs ok O1 => lcGo ok t tt we Γ (fun acc O2 => R (.d (.list acc)) O2) xs [] O1
class Wipe (Γ : Gm) (own : List Nat) (Γ' : outParam Gm) : Prop where
  e : wipeG Γ own = Γ'
instance {Γ : Gm} : Wipe Γ [] Γ := ⟨rfl⟩
instance {Γ Γ1 Γ2 : Gm} {v : Nat} {vs : List Nat} [w : Wipe Γ vs Γ1] [p : Put Γ1 v none Γ2] : Wipe Γ (v :: vs) Γ2 := ⟨by show (wipeG Γ vs).set v none = _; rw [w.e, p.e]⟩
instance {R : DK} {Γ Γ' : Gm} {O : Oh} {xe : DX} {w : DI} {t : Tg} {tt : DT} {we : DEx} {own : List Nat} [z : Wipe Γ own Γ'] : Go (dLc w t tt we own Γ O R xe) (w Γ O (kLc t tt we Γ' R) xe) := ⟨fun h => by unfold dLc; rw [z.e]; exact h⟩
instance {R : DK} {Γ : Gm} {O : Oh} {t : Tg} {tt : DT} {we : DEx} {xs : List W} {ok : Oh → Prop} : Go (kLc t tt we Γ R xs ok O) (lcGo ok t tt we Γ (fun acc O2 => R (.d (.list acc)) O2) xs [] O) := ⟨fun h => h⟩
/-- a walk, by what stays so -/
theorem for_rule {f b c : Gm → Oh → Prop} {r : DK} {ok : Oh → Prop} {t : Tg} {body : DSt} {xe : DX} {xs : List W} {Γ : Gm} {O : Oh} (I : List W → Gm → Oh → Prop) (h : I xs Γ O)
    (h0 : ∀ Γ O, I [] Γ O → ok O ∧ f Γ O)
    (h1 : ∀ x q Γ O, I (x :: q) Γ O → ok O ∧ ∀ C : Gm → Oh → Prop, (∀ Γ' O', I q Γ' O' → C Γ' O') → t.put x Γ fun Γ1 => body ⟨C, r, f, C⟩ xe Γ1 O) : forGo ok t body ⟨f, r, b, c⟩ xe xs Γ O := by
  induction xs generalizing Γ O with
  | nil => exact h0 _ _ h
  | cons x q ih =>
    obtain ⟨a, k⟩ := h1 _ _ _ _ h
    exact ⟨a, k _ fun Γ' O' i => ih i⟩
def kLcT (we : DEx) (Γ : Gm) (C : DK) (N : Oh → Prop) : Bool → Oh → Prop := fun b O => if b = true then we Γ O C X0 else N O
instance {we : DEx} {Γ : Gm} {C : DK} {N : Oh → Prop} {O : Oh} : Go (kLcT we Γ C N true O) (we Γ O C X0) := ⟨fun h => by unfold kLcT; rw [if_pos rfl]; exact h⟩
instance {we : DEx} {Γ : Gm} {C : DK} {N : Oh → Prop} {O : Oh} : Go (kLcT we Γ C N false O) (N O) := ⟨fun h => by unfold kLcT; rw [if_neg Bool.false_ne_true]; exact h⟩
/-- a list that is made, by what stays so -/
theorem lc_rule {ok : Oh → Prop} {t : Tg} {tt : DT} {we : DEx} {Γ : Gm} {fin : List PyData → Oh → Prop} {xs : List W} {acc : List PyData} {O : Oh} (I : List W → List PyData → Oh → Prop) (h : I xs acc O)
    (h0 : ∀ acc O, I [] acc O → ok O ∧ fin acc O)
    (h1 : ∀ x q acc O, I (x :: q) acc O → ok O ∧ ∀ (C : DK) (N : Oh → Prop), (∀ z O', acc.length < 1000000 → I q (acc ++ [z]) O' → C (.d z) O') → (∀ O', I q acc O' → N O') →
      t.put x Γ fun Γ1 => tt Γ1 O (kLcT we Γ1 C N) X0) : lcGo ok t tt we Γ fin xs acc O := by
  induction xs generalizing acc O with
  | nil => exact h0 _ _ h
  | cons x q ih =>
    obtain ⟨a, k⟩ := h1 _ _ _ _ h
    refine ⟨a, k _ _ (fun z O' hz i => ?_) (fun O' i => ih i)⟩
    exact ⟨hz, ih i⟩
def kWh (body : DSt) (D : DEnds) (f : Gm → Oh → Prop) (xe : DX) (Γ : Gm) : Bool → Oh → Prop := fun b O => if b = true then body D xe Γ O else f Γ O
instance {body : DSt} {D : DEnds} {f : Gm → Oh → Prop} {xe : DX} {Γ : Gm} {O : Oh} : Go (kWh body D f xe Γ true O) (body D xe Γ O) := ⟨fun h => by unfold kWh; rw [if_pos rfl]; exact h⟩
instance {body : DSt} {D : DEnds} {f : Gm → Oh → Prop} {xe : DX} {Γ : Gm} {O : Oh} : Go (kWh body D f xe Γ false O) (f Γ O) := ⟨fun h => by unfold kWh; rw [if_neg Bool.false_ne_true]; exact h⟩
/-- while: so many rounds at most -/
theorem while_go {c : DT} {body : DSt} {f b k : Gm → Oh → Prop} {r : DK} {xe : DX} {Γ : Gm} {O : Oh} (I : Nat → Gm → Oh → Prop) {n : Nat} (h : I n Γ O)
    (hs : ∀ n Γ O, I n Γ O → ∀ C : Gm → Oh → Prop, (∀ m Γ' O', m + 1 = n → I m Γ' O' → C Γ' O') → c Γ O (kWh body ⟨C, r, f, C⟩ f xe Γ) xe) : dWhile c body ⟨f, r, b, k⟩ xe Γ O := by
  refine ⟨n + 1, ?_⟩
  induction n generalizing Γ O with
  | zero => exact hs 0 Γ O h _ fun m Γ' O' hm _ => by omega
  | succ n ih =>
    refine hs (n + 1) Γ O h _ fun m Γ' O' hm i => ?_
    have e : m = n := by omega
    subst e
    exact ih i
/-! #### refusals -/
def kRaiseF (nm : Str) (fs : List Str) (xe : DX) (Γ : Gm) : List W → Oh → Prop := fun vs O1 => match datas vs with
  | some ds => ds.length = fs.length ∧ xe ⟨nm, (fs.zip ds).reverse⟩ Γ O1
  | none => False
instance {Γ : Gm} {O : Oh} {xe : DX} {D : DEnds} {nm : Str} {fs : List Str} {ws : DA} : Go (dRaiseF nm fs ws D xe Γ O) (ws Γ O (kRaiseF nm fs xe Γ) xe) := ⟨fun h => h⟩
instance {Γ : Gm} {O : Oh} {xe : DX} {D : DEnds} {nm : Str} : Go (dRaise0 nm D xe Γ O) (xe ⟨nm, []⟩ Γ O) := ⟨fun h => h⟩
def kTry (subs : List (Str × Bool)) (suite : DSt) (D : DEnds) (xe : DX) : DX := fun ex Γ' O' => match subs.lookup ex.cls with
  | some true => suite D X0 Γ' O'
  | some false => xe ex Γ' O'
  | none => False
instance {Γ : Gm} {O : Oh} {xe : DX} {D : DEnds} {subs : List (Str × Bool)} {body suite : DSt} : Go (dTry subs body suite D xe Γ O) (body D (kTry subs suite D xe) Γ O) := ⟨fun h => h⟩
def kTryAs (subs : List (Str × Bool)) (i : Nat) (suite : Addr → Option Addr → DSt) (D : DEnds) (xe : DX) : DX := fun ex Γ' O' => match subs.lookup ex.cls with
  | some true => ∀ a d, suite a d { D with nx := fun Γ1 O1 => D.nx (Γ1.set i none) O1, bk := fun Γ1 O1 => D.bk (Γ1.set i none) O1, ct := fun Γ1 O1 => D.ct (Γ1.set i none) O1 } X0 (Γ'.set i (some (.o a d ex.fs))) O'
  | some false => xe ex Γ' O'
  | none => False
instance {Γ : Gm} {O : Oh} {xe : DX} {D : DEnds} {subs : List (Str × Bool)} {i : Nat} {body : DSt} {suite : Addr → Option Addr → DSt} : Go (dTryAs subs i body suite D xe Γ O) (body D (kTryAs subs i suite D xe) Γ O) := ⟨fun h => h⟩
def kXf (a : Addr) (d : Option Addr) (f : Str) (R : DK) : DK := fun x O1 => match x with
  | .o b d' fs => b = a ∧ d' = d ∧ (match fs.lookup f with
    | some y => R (.d y) O1
    | none => False)
  | _ => False
instance {R : DK} {Γ : Gm} {O : Oh} {xe : DX} {a : Addr} {d : Option Addr} {f : Str} {w : DEx} : Go (dXf a d f w Γ O R xe) (w Γ O (kXf a d f R) xe) := ⟨fun h => h⟩
def kSet3 (o v : W) (f : Gm → Oh → Prop) (Γ : Gm) : DK := fun i O => dPutIx o i v O fun O4 => f Γ O4
def kSet2 (wi : DEx) (v : W) (f : Gm → Oh → Prop) (Γ : Gm) (xe : DX) : DK := fun o O => wi Γ O (kSet3 o v f Γ) xe
def kSet1 (wo wi : DEx) (f : Gm → Oh → Prop) (Γ : Gm) (xe : DX) : DK := fun v O => wo Γ O (kSet2 wi v f Γ xe) xe
instance {f b c : Gm → Oh → Prop} {r : DK} {Γ : Gm} {O : Oh} {xe : DX} {wo wi we : DEx} : Go (dSetI wo wi we ⟨f, r, b, c⟩ xe Γ O) (we Γ O (kSet1 wo wi f Γ xe) xe) := ⟨fun h => h⟩
instance {f : Gm → Oh → Prop} {Γ : Gm} {O : Oh} {xe : DX} {wo wi : DEx} {v : W} : Go (kSet1 wo wi f Γ xe v O) (wo Γ O (kSet2 wi v f Γ xe) xe) := ⟨fun h => h⟩
instance {f : Gm → Oh → Prop} {Γ : Gm} {O : Oh} {xe : DX} {wi : DEx} {v o : W} : Go (kSet2 wi v f Γ xe o O) (wi Γ O (kSet3 o v f Γ) xe) := ⟨fun h => h⟩
instance {f : Gm → Oh → Prop} {Γ : Gm} {O : Oh} {o v i : W} : Go (kSet3 o v f Γ i O) (dPutIx o i v O fun O4 => f Γ O4) := ⟨fun h => h⟩
theorem putix_key {O O' : Oh} {j : Nat} {kvs : List (Key × W)} {s : Str} {v : W} {k : Oh → Prop} [g : Cl O j (.dic kvs)] (hz : kvs.length < 1000000) [t : St O j (.dic (putW kvs (.inr s) v)) O'] (h : k O') : dPutIx (.c j) (.d (.str s)) v O k := by
  unfold dPutIx; dsimp only; rw [g.e]; refine ⟨hz, ?_⟩; rw [t.e]; exact h
theorem putix_lst {O : Oh} {j m : Nat} {n : Int} {ws : List W} {v : W} {k : Oh → Prop} [g : Cl O j (.lst ws)] (hi : ixN ws.length n = some m) (h : k (O.set j (.lst (ws.set m v)))) : dPutIx (.c j) (.d (.int n)) v O k := by
  unfold dPutIx; dsimp only; rw [g.e]; dsimp only; rw [hi]; exact h
/-! #### in -/
theorem in_of {neg : Bool} {x y : W} {d e : PyData} {ds : List PyData} {O : Oh} {R : DK} (n : NoDi y O) (hs : ∀ s, y ≠ .d (.str s)) (hx : asD x O = some d) (hy : asD y O = some e) (he : seqD e = some ds) (s1 : shp 40 d = true) (s2 : shp 40 e = true)
    (h : R (.d (.bool (if neg then !(ds.any fun z => PyData.eqv z d) else ds.any fun z => PyData.eqv z d))) O) : dIn2 neg x y O R := by
  unfold dIn2
  rw [if_neg (by rw [n.e]; exact Bool.false_ne_true)]
  split
  · next s => exact (hs _ rfl).elim
  · rw [hx, hy]; dsimp only; rw [he]; exact ⟨s1, s2, h⟩
end Dl
namespace Dl
open PySem PySem.Spec PyProof.Rows L2
def w_is_whole : DFn := dDef 1 1 (
  (dRet (dAndV (dIsi "int" (dVar 0)) (dNotV (dIsi "bool" (dVar 0))))))
def w__law_pot : DFn := dDefC 3 2 (
  (dSeq (dAsg (dC (.int 0)) (.nm 2))
  (dSeq (dIf (dB (dOp dLt2 (dVar 1) (dCB dLen (dCons (dVar 0) dNil))))
   (dAsg (dOp dIx2 (dVar 0) (dVar 1)) (.nm 2))
   dNext)
  (dRet (dLstC (dCons (dCB dMax (dCons (dC (.int 0)) (dCons (dOp dSub (dCB dAbs (dCons (dVar 2) dNil)) (dOp dPow (dC (.int 10)) (dC (.int 18)))) dNil))) (dCons (dOp dAdd (dOp dAdd (dOp dMod (dCB dAbs (dCons (dVar 2) dNil)) (dC (.int 2147483587))) (dOp dMul (dC (.int 101)) (dVar 1))) (dC (.int 3))) dNil)))))))
def w__law_digit : DFn := dDef 3 2 (
  (dSeq (dIf (dB (dOp dGt2 (dOp dIx2 (dVar 0) (dC (.int 0))) (dC (.int 0))))
   (dSeq (dAsg (dOp dMod (dOp dIx2 (dVar 0) (dC (.int 0))) (dVar 1)) (.nm 2))
   (dSeq (dSetI (dVar 0) (dC (.int 0)) (dOp dDiv (dOp dIx2 (dVar 0) (dC (.int 0))) (dVar 1)))
   (dRet (dVar 2))))
   dNext)
  (dSeq (dSetI (dVar 0) (dC (.int 1)) (dOp dMod (dOp dAdd (dOp dMul (dOp dIx2 (dVar 0) (dC (.int 1))) (dC (.int 39373))) (dC (.int 20011))) (dC (.int 2147483647))))
  (dRet (dOp dMod (dOp dDiv (dOp dMod (dOp dMul (dOp dIx2 (dVar 0) (dC (.int 1))) (dOp dIx2 (dVar 0) (dC (.int 1)))) (dC (.int 2147483563))) (dC (.int 11))) (dVar 1))))))
def w__law_names : DFn := dDef 10 2 (
  (dSeq (dAsg (dC (.str "abcdefghijklmnopqrstuvwxyz")) (.nm 2))
  (dSeq (dAsg (dLstC dNil) (.nm 3))
  (dSeq (dFor (dRng1 (dCons (dVar 1) dNil)) (.nm 4)
   (dSeq (dAsg (dOp dAdd (dC (.int 1)) (dCall0 w__law_digit (dCons (dVar 0) (dCons (dOp dIx2 (dLst (dCons (dC (.int 1)) (dCons (dC (.int 2)) (dCons (dC (.int 8)) dNil)))) (dCall0 w__law_digit (dCons (dVar 0) (dCons (dC (.int 3)) dNil)))) dNil)))) (.nm 5))
   (dSeq (dAsg (dJoin (dC (.str "")) (dLc (dRng1 (dCons (dVar 5) dNil)) (.nm 8) dYes (dOp dIx2 (dVar 2) (dCall0 w__law_digit (dCons (dVar 0) (dCons (dC (.int 26)) dNil)))) [8])) (.nm 6))
   (dSeq (dIf (dB (dOp (dIn2 false) (dVar 6) (dVar 3)))
    (dSeq (dAsg (dLc (dRng1 (dCons (dOp dAdd (dVar 1) (dC (.int 1))) dNil)) (.nm 8) dYes (dOp dAdd (dOp dAdd (dSlice (dVar 6) dO0 (dO1 (dC (.int 6)))) (dOp dIx2 (dVar 2) (dVar 8))) (dC (.str "q"))) [8]) (.nm 7))
    (dAsg (dOp dIx2 (dLc (dSeqI (dVar 7)) (.nm 9) (dB (dOp (dIn2 true) (dVar 9) (dVar 3))) (dVar 9) [9]) (dC (.int 0))) (.nm 6)))
    dNext)
   (dDrop (dBM isLstW dAppend (dVar 3) (dCons (dVar 6) dNil)))))))
  (dRet (dVar 3))))))
end Dl
/-! ### rows of texts -/
namespace Dl
open PySem PySem.Spec PyProof.Rows L2
abbrev sD (xs : List Str) : List PyData := xs.map PyData.str
abbrev tS (xs : List Str) : PyData := .tuple (sD xs)
abbrev lS (xs : List Str) : PyData := .list (sD xs)
theorem eqvAll_map {α : Type} [DecidableEq α] {en : α → PyData} (h : ∀ a b, PyData.eqv (en a) (en b) = decide (a = b)) (xs ys : List α) : PyData.eqvAll (xs.map en) (ys.map en) = decide (xs = ys) := by
  induction xs generalizing ys with
  | nil => cases ys <;> simp [PyData.eqvAll]
  | cons x r ih =>
    cases ys with
    | nil => simp [PyData.eqvAll]
    | cons y t =>
      simp only [List.map_cons, PyData.eqvAll, h, ih]
      by_cases a : x = y <;> by_cases b : r = t <;> simp [a, b]
theorem eqv_lmap {α : Type} [DecidableEq α] {en : α → PyData} (h : ∀ a b, PyData.eqv (en a) (en b) = decide (a = b)) (xs ys : List α) : PyData.eqv (.list (xs.map en)) (.list (ys.map en)) = decide (xs = ys) := by
  rw [← eqvAll_map h]; simp only [PyData.eqv]
theorem eqv_lS (xs ys : List Str) : PyData.eqv (lS xs) (lS ys) = decide (xs = ys) := eqv_lmap eqv_str xs ys
theorem shp_sD (n : Nat) (xs : List Str) : (sD xs).all (shp n) = true := by
  rw [List.all_eq_true]
  intro d hd
  obtain ⟨s, _, rfl⟩ := List.mem_map.mp hd
  cases n <;> rfl
theorem shp_lS (n : Nat) (xs : List Str) : shp (n + 1) (lS xs) = true := shp_sD n xs
theorem shp_tS (n : Nat) (xs : List Str) : shp (n + 1) (tS xs) = true := shp_sD n xs
theorem any_sD (xs : List Str) (s : Str) : ((sD xs).any fun z => PyData.eqv z (.str s)) = decide (s ∈ xs) := by
  rw [List.any_map]
  induction xs with
  | nil => simp
  | cons x r ih =>
    rw [List.any_cons, ih]
    simp only [Function.comp, eqv_str]
    by_cases a : x = s
    · subst a; simp
    · have : ¬ s = x := fun h => a h.symm
      simp [a, this]
theorem datas_sD (xs : List Str) : datas ((sD xs).map W.d) = some (sD xs) := datas_map _
/-- a list of texts, kept or not; a list or a tuple of texts -/
class LstS (x : W) (O : Oh) (xs : outParam (List Str)) : Prop where
  e : asD x O = some (lS xs)
instance {O : Oh} {xs : List Str} : LstS (.d (.list (xs.map PyData.str))) O xs := ⟨rfl⟩
instance (priority := high) {O : Oh} : LstS (.d (.list [])) O [] := ⟨rfl⟩
theorem asD_cell {O : Oh} {j : Nat} {ws : List W} {ds : List PyData} (h : O[j]? = some (.lst ws)) (d : datas ws = some ds) : asD (.c j) O = some (.list ds) := by
  unfold asD; dsimp only; rw [h]; dsimp only; rw [d]
instance {O : Oh} {j : Nat} {xs : List Str} [g : Cl O j (.lst ((xs.map PyData.str).map W.d))] : LstS (.c j) O xs := ⟨asD_cell g.e (datas_sD xs)⟩
instance (priority := high) {O : Oh} {j : Nat} [g : Cl O j (.lst [])] : LstS (.c j) O [] := ⟨asD_cell g.e rfl⟩
class SeqS (x : W) (O : Oh) (xs : outParam (List Str)) : Prop where
  nd : isDictW x O = false
  ns : ∀ s, x ≠ .d (.str s)
  e : ∃ d, asD x O = some d ∧ seqD d = some (sD xs) ∧ shp 40 d = true
instance {O : Oh} {xs : List Str} : SeqS (.d (.list (xs.map PyData.str))) O xs := ⟨rfl, (fun s h => by cases h), _, rfl, rfl, shp_lS 39 xs⟩
instance {O : Oh} {xs : List Str} : SeqS (.d (.tuple (xs.map PyData.str))) O xs := ⟨rfl, (fun s h => by cases h), _, rfl, rfl, shp_tS 39 xs⟩
instance {O : Oh} {j : Nat} {xs : List Str} [g : Cl O j (.lst ((xs.map PyData.str).map W.d))] : SeqS (.c j) O xs := ⟨(inferInstance : NoDi (.c j) O).e, (fun s h => by cases h), _, asD_cell g.e (datas_sD xs), rfl, shp_lS 39 xs⟩
theorem asD_app {x : W} {O L : Oh} {d : PyData} (h : asD x O = some d) : asD x (O ++ L) = some d := by
  cases x with
  | c j =>
    unfold asD at h ⊢
    dsimp only at h ⊢
    split at h
    · next ws e =>
      rw [List.getElem?_append_left (List.getElem?_eq_some_iff.mp e).1, e]
      exact h
    · cases h
  | _ => exact h
theorem isDict_app {x : W} {O L : Oh} {d : PyData} (h : asD x O = some d) (e : isDictW x O = false) : isDictW x (O ++ L) = false := by
  cases x with
  | c j =>
    unfold asD at h
    dsimp only at h
    split at h
    · next ws e =>
      unfold isDictW asDk asDt
      dsimp only
      rw [List.getElem?_append_left (List.getElem?_eq_some_iff.mp e).1, e]
      rfl
    · cases h
  | d y => cases y <;> exact e
  | _ => exact e
instance (priority := low) {x : W} {O L : Oh} {xs : List Str} [q : SeqS x O xs] : SeqS x (O ++ L) xs := by
  obtain ⟨d, h1, h2, h3⟩ := q.e
  exact ⟨isDict_app h1 q.nd, q.ns, d, asD_app h1, h2, h3⟩
instance (priority := low) {x : W} {O L : Oh} {xs : List Str} [q : LstS x O xs] : LstS x (O ++ L) xs := ⟨asD_app q.e⟩
theorem go_inS {neg : Bool} {s : Str} {y : W} {xs : List Str} {O : Oh} {R : DK} [q : SeqS y O xs] (h : R (.d (.bool (if neg then !decide (s ∈ xs) else decide (s ∈ xs)))) O) : dIn2 neg (.d (.str s)) y O R := by
  obtain ⟨d, h1, h2, h3⟩ := q.e
  refine in_of ⟨q.nd⟩ q.ns rfl h1 h2 rfl h3 ?_
  rw [any_sD]
  exact h
instance {s : Str} {y : W} {xs : List Str} {O : Oh} {R : DK} [q : SeqS y O xs] : Go (dIn2 false (.d (.str s)) y O R) (R (.d (.bool (decide (s ∈ xs)))) O) := ⟨fun h => go_inS h⟩
instance {s : Str} {y : W} {xs : List Str} {O : Oh} {R : DK} [q : SeqS y O xs] : Go (dIn2 true (.d (.str s)) y O R) (R (.d (.bool (decide (s ∉ xs)))) O) := ⟨fun h => go_inS (by rw [if_pos rfl, ← decide_not]; exact h)⟩
theorem go_eqS {x y : W} {xs ys : List Str} {O : Oh} {R : DK} [a : LstS x O xs] [b : LstS y O ys] (h : R (.d (.bool (decide (xs = ys)))) O) : dEq x y O R := by
  unfold dEq; rw [a.e, b.e]; dsimp only; rw [eqv_lS]; exact ⟨shp_lS 39 _, shp_lS 39 _, h⟩
theorem go_neS {x y : W} {xs ys : List Str} {O : Oh} {R : DK} [a : LstS x O xs] [b : LstS y O ys] (h : R (.d (.bool (!decide (xs = ys)))) O) : dNe x y O R := by
  unfold dNe; rw [a.e, b.e]; dsimp only; rw [eqv_lS]; exact ⟨shp_lS 39 _, shp_lS 39 _, h⟩
instance {x y : W} {xs ys : List Str} {O : Oh} {R : DK} [a : LstS x O xs] [b : LstS y O ys] : Go (dEq x y O R) (R (.d (.bool (decide (xs = ys)))) O) := ⟨go_eqS⟩
instance {x y : W} {xs ys : List Str} {O : Oh} {R : DK} [a : LstS x O xs] [b : LstS y O ys] : Go (dNe x y O R) (R (.d (.bool (decide (xs ≠ ys)))) O) := ⟨fun h => go_neS (by rw [← decide_not]; exact h)⟩
/-! #### slices -/
theorem cut_take {α : Type} (xs : List α) (j : Nat) : cutL xs none (some (j : Nat)) = xs.take j := by
  unfold cutL
  rw [HT.sIx_none, HT.sIx_nat, List.drop_zero, Nat.sub_zero]
  by_cases h : j ≤ xs.length
  · rw [Nat.min_eq_left h]
  · rw [Nat.min_eq_right (by omega), List.take_length, List.take_of_length_le (by omega)]
theorem cut_drop {α : Type} (xs : List α) (j : Nat) : cutL xs (some (j : Nat)) none = xs.drop j := by
  unfold cutL
  rw [HT.sIx_none, HT.sIx_nat]
  by_cases h : j ≤ xs.length
  · rw [Nat.min_eq_left h, List.take_of_length_le (by rw [List.length_drop]; exact Nat.le_refl _)]
  · rw [Nat.min_eq_right (by omega), Nat.sub_self, List.take_zero, List.drop_eq_nil_of_le (by omega)]
/-! #### places -/
class Ix (ds : List PyData) (i : Int) (d : outParam PyData) : Prop where
  e : atI (ds.map W.d) i = some (.d d)
theorem atI_map {ds : List PyData} {m : Nat} {d : PyData} (h : ds[m]? = some d) : atI (ds.map W.d) (m : Nat) = some (.d d) := atI_nat (by rw [List.getElem?_map, h]; rfl)
instance {a : PyData} {l : List PyData} : Ix (a :: l) 0 a := ⟨atI_map (m := 0) rfl⟩
instance {a b : PyData} {l : List PyData} : Ix (a :: b :: l) 1 b := ⟨atI_map (m := 1) rfl⟩
instance {a b c : PyData} {l : List PyData} : Ix (a :: b :: c :: l) 2 c := ⟨atI_map (m := 2) rfl⟩
instance {α : Type} {en : α → PyData} {a : α} {l : List α} : Ix ((a :: l).map en) 0 (en a) := ⟨atI_map (m := 0) rfl⟩
class Fz (x : W) (O : Oh) (ds : outParam (List PyData)) : Prop where
  nd : isDictW x O = false
  e : asS x O = some (ds.map W.d)
instance {O : Oh} {ds : List PyData} : Fz (.d (.list ds)) O ds := ⟨rfl, rfl⟩
instance {O : Oh} {ds : List PyData} : Fz (.d (.tuple ds)) O ds := ⟨rfl, rfl⟩
instance {O : Oh} {ds : List PyData} : Fz (.p ds) O ds := ⟨rfl, rfl⟩
instance {O : Oh} {j : Nat} {ds : List PyData} [g : Cl O j (.lst (ds.map W.d))] : Fz (.c j) O ds := ⟨(inferInstance : NoDi (.c j) O).e, by unfold asS; dsimp only; rw [g.e]⟩
theorem go_ix {x : W} {O : Oh} {ds : List PyData} {i : Int} {d : PyData} {R : DK} [f : Fz x O ds] (hi : atI (ds.map W.d) i = some (.d d)) (h : R (.d d) O) : dIx2 x (.d (.int i)) O R := by
  haveI : NoDi x O := ⟨f.nd⟩
  haveI : AsS x O (ds.map W.d) := ⟨f.e⟩
  exact ix2_of hi h
instance {x : W} {O : Oh} {ds : List PyData} {i : Int} {d : PyData} {R : DK} [f : Fz x O ds] [g : Ix ds i d] : Go (dIx2 x (.d (.int i)) O R) (R (.d d) O) := ⟨go_ix g.e⟩
/-! #### walks along what is written as a list -/
theorem for_map {α : Type} (en : α → W) {f b c : Gm → Oh → Prop} {r : DK} {t : Tg} {body : DSt} {xe : DX} {xs : List α} {Γ : Gm} {O : Oh} (I : List α → Gm → Oh → Prop) (h : I xs Γ O)
    (h0 : ∀ Γ O, I [] Γ O → f Γ O)
    (h1 : ∀ x q Γ O, I (x :: q) Γ O → ∀ C : Gm → Oh → Prop, (∀ Γ' O', I q Γ' O' → C Γ' O') → t.put (en x) Γ fun Γ1 => body ⟨C, r, f, C⟩ xe Γ1 O) : forGo (fun _ => True) t body ⟨f, r, b, c⟩ xe (xs.map en) Γ O := by
  refine for_rule (fun q Γ O => ∃ ys, q = ys.map en ∧ I ys Γ O) ⟨xs, rfl, h⟩ ?_ ?_
  · rintro Γ O ⟨ys, e, i⟩
    cases ys with
    | nil => exact ⟨trivial, h0 _ _ i⟩
    | cons y ys => cases e
  · rintro x q Γ O ⟨ys, e, i⟩
    cases ys with
    | nil => cases e
    | cons y ys =>
      rw [List.map_cons] at e
      injection e with e1 e2
      subst e1 e2
      exact ⟨trivial, fun C hC => h1 _ _ _ _ i C fun Γ' O' i' => hC _ _ ⟨ys, rfl, i'⟩⟩
theorem for_mapD {α : Type} (en : α → PyData) {f b c : Gm → Oh → Prop} {r : DK} {t : Tg} {body : DSt} {xe : DX} {xs : List α} {Γ : Gm} {O : Oh} (I : List α → Gm → Oh → Prop) (h : I xs Γ O)
    (h0 : ∀ Γ O, I [] Γ O → f Γ O)
    (h1 : ∀ x q Γ O, I (x :: q) Γ O → ∀ C : Gm → Oh → Prop, (∀ Γ' O', I q Γ' O' → C Γ' O') → t.put (.d (en x)) Γ fun Γ1 => body ⟨C, r, f, C⟩ xe Γ1 O) : forGo (fun _ => True) t body ⟨f, r, b, c⟩ xe ((xs.map en).map W.d) Γ O := by
  rw [List.map_map]
  exact for_map (W.d ∘ en) I h h0 h1
/-- range(..) -/
theorem for_rng {f b c : Gm → Oh → Prop} {r : DK} {t : Tg} {body : DSt} {xe : DX} {n : Nat} {Γ : Gm} {O : Oh} (I : Nat → Gm → Oh → Prop) (h : I 0 Γ O)
    (h0 : ∀ Γ O, I n Γ O → f Γ O)
    (h1 : ∀ k Γ O, k < n → I k Γ O → ∀ C : Gm → Oh → Prop, (∀ Γ' O', I (k + 1) Γ' O' → C Γ' O') → t.put (.d (.int (k : Nat))) Γ fun Γ1 => body ⟨C, r, f, C⟩ xe Γ1 O) : forGo (fun _ => True) t body ⟨f, r, b, c⟩ xe (rgW 0 n) Γ O := by
  refine for_rule (fun q Γ O => ∃ k m : Nat, k + m = n ∧ q = rgW (k : Nat) m ∧ I k Γ O) ⟨0, n, by omega, rfl, h⟩ ?_ ?_
  · rintro Γ O ⟨k, m, hk, e, i⟩
    cases m with
    | zero => have : k = n := by omega
              subst this; exact ⟨trivial, h0 _ _ i⟩
    | succ m => cases e
  · rintro x q Γ O ⟨k, m, hk, e, i⟩
    cases m with
    | zero => cases e
    | succ m =>
      injection e with e1 e2
      subst e1 e2
      exact ⟨trivial, fun C hC => h1 _ _ _ (by omega) i C fun Γ' O' i' => hC _ _ ⟨k + 1, m, by omega, by simp, i'⟩⟩
/-- a list made of each element by itself -/
theorem lc_map {α : Type} (en : α → W) {i : Nat} {tt : DT} {we : DEx} {Γ : Gm} {fin : List PyData → Oh → Prop} {xs : List α} {O : Oh} {ok : Oh → Prop} (p : α → Bool) (g : α → PyData) (hok : ok O) (hz : xs.length ≤ 1000000)
    (h1 : ∀ x ∈ xs, ∀ C, C (p x) O → (Tg.nm i).put (en x) Γ fun Γ' => tt Γ' O C X0) (h2 : ∀ x ∈ xs, p x = true → ∀ C : DK, C (.d (g x)) O → (Tg.nm i).put (en x) Γ fun Γ' => we Γ' O C X0)
    (h : fin ((xs.filter p).map g) O) : lcGo ok (.nm i) tt we Γ fin (xs.map en) [] O := by
  refine lc_rule (fun q acc O' => ∃ ys : List α, q = ys.map en ∧ O' = O ∧ (∀ x ∈ ys, x ∈ xs) ∧ acc.length + ys.length ≤ 1000000 ∧ acc ++ (ys.filter p).map g = (xs.filter p).map g) ⟨xs, rfl, rfl, fun _ h => h, by simpa using hz, rfl⟩ ?_ ?_
  · rintro acc O' ⟨ys, e0, rfl, _, _, e⟩
    cases ys with
    | cons y ys => cases e0
    | nil =>
      simp only [List.filter_nil, List.map_nil, List.append_nil] at e
      subst e
      exact ⟨hok, h⟩
  · rintro x q acc O' ⟨ys, e0, rfl, hm, hl, e⟩
    cases ys with
    | nil => cases e0
    | cons y ys =>
      rw [List.map_cons] at e0
      injection e0 with e1 e2
      subst e1 e2
      refine ⟨hok, fun C N hC hN => ?_⟩
      unfold Tg.put
      refine h1 y (hm y List.mem_cons_self) _ ?_
      unfold kLcT
      rw [List.length_cons] at hl
      by_cases z : p y = true
      · rw [if_pos z]
        refine h2 y (hm y List.mem_cons_self) z _ (hC _ _ (by omega) ⟨ys, rfl, rfl, fun w hw => hm w (List.mem_cons_of_mem _ hw), by simp; omega, ?_⟩)
        rw [List.filter_cons_of_pos z, List.map_cons] at e
        rw [← e]; simp
      · rw [if_neg z]
        rw [List.filter_cons_of_neg z] at e
        exact hN _ ⟨ys, rfl, rfl, fun w hw => hm w (List.mem_cons_of_mem _ hw), by omega, e⟩
theorem lc_mapD {α : Type} (en : α → PyData) {i : Nat} {tt : DT} {we : DEx} {Γ : Gm} {fin : List PyData → Oh → Prop} {xs : List α} {O : Oh} {ok : Oh → Prop} (p : α → Bool) (g : α → PyData) (hok : ok O) (hz : xs.length ≤ 1000000)
    (h1 : ∀ x ∈ xs, ∀ C, C (p x) O → (Tg.nm i).put (.d (en x)) Γ fun Γ' => tt Γ' O C X0) (h2 : ∀ x ∈ xs, p x = true → ∀ C : DK, C (.d (g x)) O → (Tg.nm i).put (.d (en x)) Γ fun Γ' => we Γ' O C X0)
    (h : fin ((xs.filter p).map g) O) : lcGo ok (.nm i) tt we Γ fin ((xs.map en).map W.d) [] O := by
  rw [List.map_map]
  exact lc_map (W.d ∘ en) p g hok hz h1 h2 h
/-- .. each element kept -/
theorem lc_all {α : Type} (en : α → PyData) {i : Nat} {we : DEx} {Γ : Gm} {fin : List PyData → Oh → Prop} {xs : List α} {O : Oh} {ok : Oh → Prop} (g : α → PyData) (hok : ok O) (hz : xs.length ≤ 1000000)
    (h2 : ∀ x ∈ xs, ∀ C : DK, C (.d (g x)) O → (Tg.nm i).put (.d (en x)) Γ fun Γ' => we Γ' O C X0)
    (h : fin (xs.map g) O) : lcGo ok (.nm i) dYes we Γ fin ((xs.map en).map W.d) [] O :=
  lc_mapD en (fun _ => true) g hok hz (fun x _ C hC => by unfold Tg.put; exact hC) (fun x hx _ => h2 x hx) (by rw [List.filter_eq_self.mpr (fun _ _ => rfl)]; exact h)
/-- .. with a store that changes: along range(..) -/
theorem lc_rng {t : Tg} {tt : DT} {we : DEx} {Γ : Gm} {fin : List PyData → Oh → Prop} {n : Nat} {O : Oh} (I : Nat → List PyData → Oh → Prop) (h : I 0 [] O)
    (h0 : ∀ acc O, I n acc O → fin acc O)
    (h1 : ∀ k acc O, k < n → I k acc O → ∀ (C : DK) (N : Oh → Prop), (∀ z O', acc.length < 1000000 → I (k + 1) (acc ++ [z]) O' → C (.d z) O') → (∀ O', I (k + 1) acc O' → N O') →
      t.put (.d (.int (k : Nat))) Γ fun Γ1 => tt Γ1 O (kLcT we Γ1 C N) X0) : lcGo (fun _ => True) t tt we Γ fin (rgW 0 n) [] O := by
  refine lc_rule (fun q acc O => ∃ k m : Nat, k + m = n ∧ q = rgW (k : Nat) m ∧ I k acc O) ⟨0, n, by omega, rfl, h⟩ ?_ ?_
  · rintro acc O ⟨k, m, hk, e, i⟩
    cases m with
    | zero => have : k = n := by omega
              subst this; exact ⟨trivial, h0 _ _ i⟩
    | succ m => cases e
  · rintro x q acc O ⟨k, m, hk, e, i⟩
    cases m with
    | zero => cases e
    | succ m =>
      injection e with e1 e2
      subst e1 e2
      exact ⟨trivial, fun C N hC hN => h1 _ _ _ (by omega) i C N (fun z O' hz i' => hC _ _ hz ⟨k + 1, m, by omega, by simp, i'⟩) (fun O' i' => hN _ ⟨k + 1, m, by omega, by simp, i'⟩)⟩
/-- .. along a list -/
theorem lc_mapI {α : Type} (en : α → PyData) {t : Tg} {tt : DT} {we : DEx} {Γ : Gm} {fin : List PyData → Oh → Prop} {xs : List α} {O : Oh} (I : List α → List PyData → Oh → Prop) (h : I xs [] O)
    (h0 : ∀ acc O, I [] acc O → fin acc O)
    (h1 : ∀ x q acc O, I (x :: q) acc O → ∀ (C : DK) (N : Oh → Prop), (∀ z O', acc.length < 1000000 → I q (acc ++ [z]) O' → C (.d z) O') → (∀ O', I q acc O' → N O') →
      t.put (.d (en x)) Γ fun Γ1 => tt Γ1 O (kLcT we Γ1 C N) X0) : lcGo (fun _ => True) t tt we Γ fin ((xs.map en).map W.d) [] O := by
  refine lc_rule (fun q acc O => ∃ ys : List α, q = (ys.map en).map W.d ∧ I ys acc O) ⟨xs, rfl, h⟩ ?_ ?_
  · rintro acc O ⟨ys, e, i⟩
    cases ys with
    | nil => exact ⟨trivial, h0 _ _ i⟩
    | cons y ys => cases e
  · rintro x q acc O ⟨ys, e, i⟩
    cases ys with
    | nil => cases e
    | cons y ys =>
      simp only [List.map_cons, List.cons.injEq] at e
      obtain ⟨rfl, rfl⟩ := e
      exact ⟨trivial, fun C N hC hN => h1 _ _ _ _ i C N (fun z O' hz i' => hC _ _ hz ⟨ys, rfl, i'⟩) (fun O' i' => hN _ ⟨ys, rfl, i'⟩)⟩
theorem rgW_map : ∀ (m n : Nat), rgW (m : Nat) n = ((List.range' m n).map fun k => PyData.int (k : Nat)).map W.d
  | _, 0 => rfl
  | m, n + 1 => by
    show W.d (.int (m : Nat)) :: rgW ((m : Int) + 1) n = _
    rw [show ((m : Int) + 1) = ((m + 1 : Nat) : Int) by simp, rgW_map (m + 1) n]
    rfl
theorem rgW_range (n : Nat) : rgW 0 n = ((List.range n).map fun k => PyData.int (k : Nat)).map W.d := by
  rw [List.range_eq_range']; exact rgW_map 0 n
end Dl
namespace Dl
open PySem PySem.Spec PyProof.Rows L2
/-! ### dicts by texts -/
def OkS (s : Str) : Prop := PyData.strOk s = true ∧ s.length ≤ 12
def kvM (f : Str → W) (σ : List Str) : List (Key × W) := σ.map fun s => (.inr s, f s)
theorem valW_kvM (f : Str → W) (s : Str) : ∀ σ : List Str, valW (kvM f σ) (.inr s) = if s ∈ σ then some (f s) else none
  | [] => rfl
  | x :: r => by
    unfold valW kvM
    rw [List.map_cons]
    by_cases z : x = s
    · subst z
      rw [List.find?_cons_of_pos (by simp)]
      simp
    · rw [List.find?_cons_of_neg (by simpa using z)]
      have ih := valW_kvM f s r
      unfold valW kvM at ih
      rw [ih]
      have : (s ∈ x :: r) = (s ∈ r) := by
        rw [List.mem_cons]
        exact propext ⟨fun h => h.elim (fun e => absurd e.symm z) id, .inr⟩
      simp only [this]
theorem putW_new (f : Str → W) {σ : List Str} {s : Str} (h : s ∉ σ) : putW (kvM f σ) (.inr s) (f s) = kvM f (σ ++ [s]) := by
  unfold putW kvM
  rw [if_neg, List.map_append]
  · rfl
  · rw [List.any_map, List.any_eq_true]
    rintro ⟨x, hx, e⟩
    have e : Sum.inr x = (Sum.inr s : Key) := of_decide_eq_true e
    exact h (by rw [← Sum.inr.inj e]; exact hx)
theorem kvM_len (f : Str → W) (σ : List Str) : (kvM f σ).length = σ.length := List.length_map _
/-- a dict by texts: a cell, or one that never changes -/
class KvM (x : W) (O : Oh) (f : outParam (Str → W)) (σ : outParam (List Str)) : Prop where
  e : asDk x O = some (kvM f σ)
instance {O : Oh} {j : Nat} {f : Str → W} {σ : List Str} [g : Cl O j (.dic (kvM f σ))] : KvM (.c j) O f σ := ⟨(inferInstance : IsDk (.c j) O (kvM f σ)).e⟩
abbrev kvD (f : Str → PyData) (σ : List Str) : List (PyData × PyData) := σ.map fun s => (PyData.str s, f s)
theorem keysD_kvD (f : Str → PyData) : ∀ σ : List Str, keysD (kvD f σ) = some (kvM (fun s => .d (f s)) σ)
  | [] => rfl
  | s :: r => by
    show (match keysD (kvD f r) with | some kvs => some (((Sum.inr s : Key), W.d (f s)) :: kvs) | none => none) = _
    rw [keysD_kvD f r]; rfl
instance {O : Oh} {f : Str → PyData} {σ : List Str} : KvM (.d (.dict (σ.map fun s => (PyData.str s, f s)))) O (fun s => .d (f s)) σ := ⟨keysD_kvD f σ⟩
theorem go_inK {neg : Bool} {x : W} {s : Str} {O : Oh} {R : DK} {f : Str → W} {σ : List Str} [g : KvM x O f σ] (h : R (.d (.bool (if neg then decide (s ∉ σ) else decide (s ∈ σ)))) O) : dIn2 neg (.d (.str s)) x O R := by
  have e := g.e
  unfold dIn2
  rw [if_pos (by unfold isDictW; rw [e]; rfl)]
  unfold dGet
  rw [e]
  show R (.d (.bool (if neg then !(valW (kvM f σ) (.inr s)).isSome else (valW (kvM f σ) (.inr s)).isSome))) O
  rw [valW_kvM]
  by_cases z : s ∈ σ
  · rw [if_pos z]; cases neg <;> simpa [z] using h
  · rw [if_neg z]; cases neg <;> simpa [z] using h
instance {x : W} {s : Str} {O : Oh} {R : DK} {f : Str → W} {σ : List Str} [g : KvM x O f σ] : Go (dIn2 false (.d (.str s)) x O R) (R (.d (.bool (decide (s ∈ σ)))) O) := ⟨fun h => go_inK h⟩
instance {x : W} {s : Str} {O : Oh} {R : DK} {f : Str → W} {σ : List Str} [g : KvM x O f σ] : Go (dIn2 true (.d (.str s)) x O R) (R (.d (.bool (decide (s ∉ σ)))) O) := ⟨fun h => go_inK (by rw [if_pos rfl]; exact h)⟩
theorem go_ixK {x : W} {s : Str} {O : Oh} {R : DK} {f : Str → W} {σ : List Str} [g : KvM x O f σ] (hs : s ∈ σ) (h : R (f s) O) : dIx2 x (.d (.str s)) O R := by
  have e := g.e
  unfold dIx2
  rw [if_pos (by unfold isDictW; rw [e]; rfl)]
  unfold dGet
  rw [e]
  show (match valW (kvM f σ) (.inr s) with | some w => R w O | none => False)
  rw [valW_kvM, if_pos hs]
  exact h
theorem kvM_keys {f : Str → W} {σ : List Str} (h : ∀ s ∈ σ, OkS s) : ((kvM f σ).map (·.1)).all keyOk = true := by
  rw [List.all_eq_true]
  intro k hk
  unfold kvM at hk
  rw [List.map_map] at hk
  obtain ⟨s, hs, rfl⟩ := List.mem_map.mp hk
  exact (h s hs).1
theorem go_listOfK {x : W} {O : Oh} {R : DK} {f : Str → W} {σ : List Str} [g : KvM x O f σ] (hz : σ.length ≤ 1000000) (hk : ∀ s ∈ σ, OkS s) (h : R (.d (lS σ)) O) : dListOf2 [x] O R := by
  have e := g.e
  unfold dListOf2
  dsimp only
  rw [e]
  refine ⟨by rw [kvM_len]; exact hz, kvM_keys hk, ?_⟩
  have e2 : (kvM f σ).map (fun kv => keyD kv.1) = sD σ := by unfold kvM; rw [List.map_map]; rfl
  rw [e2]
  exact h
theorem putix_new {O O' : Oh} {j : Nat} {f : Str → W} {σ : List Str} {s : Str} {v : W} {k : Oh → Prop} [g : Cl O j (.dic (kvM f σ))] (hz : σ.length < 1000000) (hs : s ∉ σ) (hv : v = f s) [t : St O j (.dic (kvM f (σ ++ [s]))) O'] (h : k O') : dPutIx (.c j) (.d (.str s)) v O k := by
  subst hv
  haveI : St O j (.dic (putW (kvM f σ) (.inr s) (f s))) O' := ⟨by rw [putW_new f hs]; exact t.e⟩
  exact putix_key (by rw [kvM_len]; exact hz) h
/-! ### walks where something has to stay -/
end Dl
namespace Dl
open PySem PySem.Spec PyProof.Rows L2
/-! ### rows as data -/
/-- few rows, of few unlike names -/
structure GoodR (rs : List (List Str)) : Prop where
  few : rs.length ≤ 6
  row : ∀ r ∈ rs, r.Nodup ∧ r.length ≤ 8 ∧ ∀ s ∈ r, OkS s
def namesOf (rs : List (List Str)) : List Str := met rs.flatten
theorem GoodR.flat {rs : List (List Str)} (g : GoodR rs) : rs.flatten.length ≤ 48 := by
  have : ∀ rs : List (List Str), (∀ r ∈ rs, r.length ≤ 8) → rs.flatten.length ≤ 8 * rs.length := by
    intro rs
    induction rs with
    | nil => intro _; simp
    | cons r q ih =>
      intro h
      rw [List.flatten_cons, List.length_append, List.length_cons]
      have := ih fun x hx => h x (List.mem_cons_of_mem _ hx)
      have := h r List.mem_cons_self
      omega
  have h1 := this rs fun r hr => (g.row r hr).2.1
  have := g.few
  omega
theorem met_len (xs : List Str) : (met xs).length ≤ xs.length := by have := met_le_aux xs []; simpa [met] using this
theorem met_strs {xs : List Str} {s : Str} : s ∈ met xs → s ∈ xs := by
  have : ∀ (ys σ : List Str), s ∈ ys.foldl addMet σ → s ∈ σ ∨ s ∈ ys := by
    intro ys
    induction ys with
    | nil => intro σ h; exact .inl h
    | cons y r ih =>
      intro σ h
      rcases ih _ h with h | h
      · unfold addMet at h
        split at h
        · exact .inl h
        · rcases List.mem_append.mp h with h | h
          · exact .inl h
          · rw [List.mem_singleton] at h; exact .inr (h ▸ List.mem_cons_self)
      · exact .inr (List.mem_cons_of_mem _ h)
  intro h
  rcases this _ _ h with h | h
  · cases h
  · exact h
/-! ### wishes -/
def ahead (left row : List Str) (a : Str) : List Str := (row.take (row.findIdx (· == a))).filter fun s => decide (s ∈ left)
abbrev Wish := Nat × Str × Str
def wishFrom (left : List Str) (a : Str) : Nat → List (List Str) → Option Wish
  | _, [] => none
  | k, row :: rs => if a ∈ row then (match ahead left row a with
    | b :: _ => some (k, b, a)
    | [] => wishFrom left a (k + 1) rs) else wishFrom left a (k + 1) rs
def wishOf (rs : List (List Str)) (left : List Str) (a : Str) : Option Wish := wishFrom left a 0 rs
theorem idx_some {xs : List Str} {a : Str} (h : a ∈ xs) : xs.findIdx? (· == a) = some (xs.findIdx (· == a)) := by
  rw [List.findIdx?_eq_some_iff_findIdx_eq]
  exact ⟨List.findIdx_lt_length_of_exists ⟨a, h, by simp⟩, rfl⟩
end Dl
namespace Dl
open PySem PySem.Spec PyProof.Rows L2
/-! ### each once -/
theorem addMet_nodup {σ : List Str} {v : Str} (h : σ.Nodup) : (addMet σ v).Nodup := by
  unfold addMet
  split
  · exact h
  · next c =>
    rw [List.nodup_append]
    refine ⟨h, by simp, fun a ha b hb => ?_⟩
    rw [List.mem_singleton] at hb
    subst hb
    intro e
    subst e
    exact c (List.any_eq_true.mpr ⟨a, ha, by simp⟩)
theorem met_nodup (xs : List Str) : (met xs).Nodup := by
  have : ∀ (ys σ : List Str), σ.Nodup → (ys.foldl addMet σ).Nodup := by
    intro ys
    induction ys with
    | nil => exact fun σ h => h
    | cons y r ih => exact fun σ h => ih _ (addMet_nodup h)
  exact this xs [] List.nodup_nil
theorem mem_met {xs : List Str} {s : Str} (h : s ∈ xs) : s ∈ met xs := by
  have key : ∀ (ys σ : List Str), (s ∈ σ ∨ s ∈ ys) → s ∈ ys.foldl addMet σ := by
    intro ys
    induction ys with
    | nil => intro σ h; exact h.elim id (fun h => by cases h)
    | cons y r ih =>
      intro σ h
      apply ih
      rcases h with h | h
      · left; unfold addMet; split
        · exact h
        · exact List.mem_append_left _ h
      · rcases List.mem_cons.mp h with rfl | h
        · left; unfold addMet; split
          · next c =>
            obtain ⟨y, hy, e⟩ := List.any_eq_true.mp c
            rw [← eq_of_beq e]; exact hy
          · simp
        · exact .inr h
  exact key xs [] (.inr h)
/-- unlike ones among some are no more than these -/
theorem nodup_sub_len {xs ys : List Str} (h : xs.Nodup) (s : ∀ x ∈ xs, x ∈ ys) : xs.length ≤ ys.length := by
  induction xs generalizing ys with
  | nil => simp
  | cons x r ih =>
    rw [List.nodup_cons] at h
    have hx := s x List.mem_cons_self
    have := ih (ys := ys.erase x) h.2 fun y hy => (List.mem_erase_of_ne (a := y) (b := x) (fun e => h.1 (by rw [← e]; exact hy))).mpr (s y (List.mem_cons_of_mem _ hy))
    rw [List.length_erase_of_mem hx] at this
    rw [List.length_cons]
    have := List.length_pos_of_mem hx
    omega
/-! ### rings -/
def lastOf (f : Str → Option Wish) (names : List Str) : Option Wish := names.getLast?.bind f
def ringRun (f : Str → Option Wish) : Nat → List Str → List Wish → List Str × List Wish
  | 0, names, wishes => (names, wishes)
  | n + 1, names, wishes => if names.Nodup then (match lastOf f names with
    | some w => ringRun f n (names ++ [w.2.1]) (wishes ++ [w])
    | none => (names, wishes)) else (names, wishes)
def ringOf (rs : List (List Str)) (left : List Str) : List Wish :=
  let r := ringRun (wishOf rs left) (left.length + 1) (left.take 1) []
  (r.2.drop ((r.1.findIdx? (· == r.1.getLast?.getD "")).getD 0)).reverse
/-- a wish that a row has -/
def Wished (rs : List (List Str)) (w : Wish) : Prop := ∃ row, rs[w.1]? = some row ∧ w.2.1 ∈ row ∧ w.2.2 ∈ row ∧ row.findIdx (· == w.2.1) < row.findIdx (· == w.2.2)
structure IsRing (rs : List (List Str)) (ring : List Wish) : Prop where
  two : 2 ≤ ring.length
  all : ∀ w ∈ ring, Wished rs w
  nd : (ring.map fun w => w.2.1).Nodup
  turn : ring.map (fun w => w.2.2) = (ring.map fun w => w.2.1).drop 1 ++ (ring.map fun w => w.2.1).take 1
theorem mem_ahead {left row : List Str} {a b : Str} (h : b ∈ ahead left row a) : b ∈ left ∧ b ∈ row ∧ row.findIdx (· == b) < row.findIdx (· == a) := by
  unfold ahead at h
  obtain ⟨h1, h2⟩ := List.mem_filter.mp h
  refine ⟨of_decide_eq_true h2, List.mem_of_mem_take h1, ?_⟩
  obtain ⟨i, hi, e⟩ := List.getElem_of_mem h1
  rw [List.length_take] at hi
  rw [List.getElem_take] at e
  have : row.findIdx (· == b) ≤ i := by
    apply Nat.le_of_not_lt
    intro hlt
    have := List.not_of_lt_findIdx hlt
    rw [e] at this
    simp at this
  omega
theorem wishFrom_ok {left : List Str} {a : Str} {w : Wish} : ∀ {k : Nat} {q : List (List Str)}, wishFrom left a k q = some w → ∃ i row, w.1 = k + i ∧ q[i]? = some row ∧ w.2.2 = a ∧ a ∈ row ∧ w.2.1 ∈ ahead left row a
  | _, [], h => by cases h
  | k, row :: q, h => by
    unfold wishFrom at h
    have next : wishFrom left a (k + 1) q = some w → ∃ i row', w.1 = k + i ∧ (row :: q)[i]? = some row' ∧ w.2.2 = a ∧ a ∈ row' ∧ w.2.1 ∈ ahead left row' a := fun h => by
      obtain ⟨i, row', h1, h2, h3⟩ := wishFrom_ok h
      exact ⟨i + 1, row', by omega, by simpa using h2, h3⟩
    split at h
    · next ha =>
      split at h
      · next b t e =>
        cases h
        exact ⟨0, row, rfl, rfl, rfl, ha, by rw [e]; exact List.mem_cons_self⟩
      · exact next h
    · exact next h
theorem wishOf_ok {rs : List (List Str)} {left : List Str} {a : Str} {w : Wish} (h : wishOf rs left a = some w) : Wished rs w ∧ w.2.2 = a ∧ w.2.1 ∈ left := by
  obtain ⟨i, row, h1, h2, h3, h4, h5⟩ := wishFrom_ok h
  obtain ⟨h6, h7, h8⟩ := mem_ahead h5
  refine ⟨⟨row, by rw [h1, Nat.zero_add]; exact h2, h7, h3 ▸ h4, by rw [h3]; exact h8⟩, h3, h6⟩
theorem ringRun_ok {rs : List (List Str)} {left : List Str} (hf : ∀ a ∈ left, wishOf rs left a ≠ none) :
    ∀ (n : Nat) (names : List Str) (wishes : List Wish), names ≠ [] → (∀ s ∈ names, s ∈ left) → (∀ w ∈ wishes, Wished rs w) → names.tail = wishes.map (fun w => w.2.1) → names.dropLast = wishes.map (fun w => w.2.2) → (names.Nodup ∨ (names.dropLast.Nodup ∧ ¬ names.Nodup)) → left.length + 1 ≤ names.length + n →
      ∃ N Wi, ringRun (wishOf rs left) n names wishes = (N, Wi) ∧ (∀ w ∈ Wi, Wished rs w) ∧ N.tail = Wi.map (fun w => w.2.1) ∧ N.dropLast = Wi.map (fun w => w.2.2) ∧ N.dropLast.Nodup ∧ ¬ N.Nodup ∧ N ≠ []
  | n, names, wishes, h1, h2, h3, h4, h5, h6, h7 => by
    rcases h6 with h6 | ⟨h6, h6'⟩
    · have hl := nodup_sub_len h6 h2
      cases n with
      | zero => omega
      | succ n =>
        have hg : names.getLast? = some (names.getLast h1) := List.getLast?_eq_some_getLast h1
        have hm := h2 _ (List.getLast_mem h1)
        cases hw : wishOf rs left (names.getLast h1) with
        | none => exact absurd hw (hf _ hm)
        | some w =>
          obtain ⟨k1, k2, k3⟩ := wishOf_ok hw
          unfold ringRun
          rw [if_pos h6]
          unfold lastOf
          rw [hg]
          show ∃ N Wi, (match wishOf rs left (names.getLast h1) with | some w => ringRun (wishOf rs left) n (names ++ [w.2.1]) (wishes ++ [w]) | none => (names, wishes)) = (N, Wi) ∧ _
          rw [hw]
          have e1 : names.dropLast ++ [names.getLast h1] = names := List.dropLast_concat_getLast h1
          refine ringRun_ok hf n _ _ (by simp) ?_ ?_ ?_ ?_ ?_ (by simp; omega)
          · intro s hs
            rcases List.mem_append.mp hs with hs | hs
            · exact h2 s hs
            · rw [List.mem_singleton.mp hs]; exact k3
          · intro v hv
            rcases List.mem_append.mp hv with hv | hv
            · exact h3 v hv
            · rw [List.mem_singleton.mp hv]; exact k1
          · rw [List.tail_append_of_ne_nil h1, h4]; simp
          · rw [List.dropLast_concat, List.map_append, ← h5, List.map_singleton, k2, e1]
          · rw [List.dropLast_concat]
            by_cases z : (names ++ [w.2.1]).Nodup
            · exact .inl z
            · exact .inr ⟨h6, z⟩
    · refine ⟨names, wishes, ?_, h3, h4, h5, h6, h6', h1⟩
      cases n with
      | zero => rfl
      | succ n => unfold ringRun; rw [if_neg h6']
theorem ring_of_names {rs : List (List Str)} {N : List Str} {Wi : List Wish} (h1 : ∀ w ∈ Wi, Wished rs w) (h2 : N.tail = Wi.map (fun w => w.2.1)) (h3 : N.dropLast = Wi.map (fun w => w.2.2)) (h4 : N.dropLast.Nodup) (h5 : ¬ N.Nodup) (h6 : N ≠ []) :
    ∃ l g, N.getLast? = some l ∧ N.findIdx? (· == l) = some g ∧ g ≤ Wi.length ∧ IsRing rs (Wi.drop g).reverse := by
  have e1 : N.dropLast ++ [N.getLast h6] = N := List.dropLast_concat_getLast h6
  generalize hi : N.dropLast = init at *
  generalize hl : N.getLast h6 = l at *
  have hm : l ∈ init := by
    apply Classical.byContradiction
    intro z
    apply h5
    rw [← e1, List.nodup_append]
    refine ⟨h4, by simp, fun a ha b hb => ?_⟩
    rw [List.mem_singleton] at hb
    subst hb
    intro e
    subst e
    exact z ha
  have hg : init.findIdx (· == l) < init.length := List.findIdx_lt_length_of_exists ⟨l, hm, by simp⟩
  refine ⟨l, init.findIdx (· == l), by rw [← e1]; simp, ?_, ?_, ?_⟩
  · rw [← e1, List.findIdx?_append, idx_some hm]; rfl
  · have : Wi.length = init.length := by rw [h3, List.length_map]
    omega
  generalize hgg : init.findIdx (· == l) = g at *
  have hat : init[g]? = some l := by
    have := List.findIdx_getElem (p := (· == l)) (xs := init) (w := by omega)
    rw [List.getElem?_eq_getElem hg]
    subst hgg
    rw [eq_of_beq this]
  have d1 : init.drop g = l :: init.drop (g + 1) := by
    rw [List.drop_eq_getElem_cons hg]
    rw [List.getElem?_eq_getElem hg] at hat
    injection hat with hat
    rw [hat]
  have d2 : (Wi.drop g).map (fun w => w.2.2) = l :: init.drop (g + 1) := by rw [List.map_drop, ← h3, d1]
  have d3 : (Wi.drop g).map (fun w => w.2.1) = init.drop (g + 1) ++ [l] := by
    rw [List.map_drop, ← h2, ← e1]
    rw [List.tail_append_of_ne_nil (by intro z; rw [z] at hg; simp at hg), ← List.drop_one, List.drop_append_of_le_length (by simp; omega), List.drop_drop]
    congr 2
    omega
  have nd : (l :: init.drop (g + 1)).Nodup := by rw [← d1]; exact h4.sublist (List.drop_sublist _ _)
  have hall : ∀ w ∈ (Wi.drop g).reverse, Wished rs w := fun w hw => h1 w (List.mem_of_mem_drop (List.mem_reverse.mp hw))
  have e2 : ((Wi.drop g).reverse.map fun w => w.2.1) = l :: (init.drop (g + 1)).reverse := by rw [List.map_reverse, d3]; simp
  have e3 : ((Wi.drop g).reverse.map fun w => w.2.2) = (init.drop (g + 1)).reverse ++ [l] := by rw [List.map_reverse, d2]; simp
  refine ⟨?_, hall, ?_, ?_⟩
  · cases hd : init.drop (g + 1) with
    | cons x r =>
      have := congrArg List.length e2
      rw [hd] at this
      simp at this
      simp only [List.length_reverse, List.length_drop] at this ⊢
      omega
    | nil =>
      exfalso
      rw [hd] at d2 d3
      cases hw : Wi.drop g with
      | nil => rw [hw] at d2; cases d2
      | cons w t =>
        rw [hw] at d2 d3
        simp only [List.map_cons, List.nil_append, List.cons.injEq] at d2 d3
        obtain ⟨row, _, _, _, hlt⟩ := hall w (by rw [hw]; simp)
        rw [d2.1, d3.1] at hlt
        omega
  · rw [e2]
    rw [List.nodup_cons] at nd ⊢
    exact ⟨fun h => nd.1 (List.mem_reverse.mp h), List.pairwise_reverse.mpr (nd.2.imp fun h => Ne.symm h)⟩
  · rw [e2, e3]; simp
end Dl
namespace Dl
open PySem PySem.Spec PyProof.Rows L2
abbrev cS (xs : List Str) : Cell := .lst ((sD xs).map W.d)
theorem atI_last {ds : List PyData} {d : PyData} (h : ds.getLast? = some d) : atI (ds.map W.d) (-1) = some (.d d) := by
  have hne : ds ≠ [] := fun e => by rw [e] at h; cases h
  have hl : 0 < ds.length := List.length_pos_iff.mpr hne
  unfold atI ixN
  rw [List.length_map, if_neg (by omega), if_pos (by omega)]
  show (ds.map W.d)[((-1 : Int) + ds.length).toNat]? = _
  rw [show ((-1 : Int) + ds.length).toNat = ds.length - 1 by omega, List.getElem?_map, ← List.getLast?_eq_getElem?, h]
  rfl
theorem str_snoc (xs : List Str) (s : Str) : (sD xs).map W.d ++ [.d (.str s)] = (sD (xs ++ [s])).map W.d := by simp
/-! ### merged -/
def freeOf (rs : List (List Str)) (left : List Str) : List Str := left.filter fun a => (wishOf rs left a).isNone
def mergeGo (rs : List (List Str)) : Nat → List Str → List Str → Except (List Wish) (List Str)
  | 0, _, found => .ok found
  | n + 1, left, found => if left = [] then .ok found else match freeOf rs left with
    | [] => .error (ringOf rs left)
    | a :: _ => mergeGo rs n (left.erase a) (found ++ [a])
def mergedOf (rs : List (List Str)) : Except (List Wish) (List Str) := mergeGo rs ((namesOf rs).length + 1) (namesOf rs) []
theorem free_none {rs : List (List Str)} {left : List Str} (h : freeOf rs left = []) : ∀ a ∈ left, wishOf rs left a ≠ none := by
  intro a ha e
  have : a ∈ freeOf rs left := List.mem_filter.mpr ⟨ha, by rw [e]; rfl⟩
  rw [h] at this
  cases this
theorem map_erase {α β : Type} (f : α → β) : ∀ (xs : List α) (m : Nat), (xs.eraseIdx m).map f = (xs.map f).eraseIdx m
  | [], _ => by simp
  | _ :: _, 0 => rfl
  | x :: r, m + 1 => by simp [map_erase f r m]
end Dl
namespace Dl
open PySem PySem.Spec PyProof.Rows L2
/-! ### what merged tells -/
theorem wishFrom_none {left : List Str} {a : Str} : ∀ {k : Nat} {q : List (List Str)}, wishFrom left a k q = none → ∀ row ∈ q, a ∈ row → ahead left row a = []
  | _, [], _, row, h, _ => by cases h
  | k, r :: q, h, row, hm, ha => by
    unfold wishFrom at h
    by_cases z : a ∈ r
    · rw [if_pos z] at h
      cases hh : ahead left r a with
      | cons b t => rw [hh] at h; cases h
      | nil =>
        rw [hh] at h
        rcases List.mem_cons.mp hm with rfl | hm
        · exact hh
        · exact wishFrom_none h row hm ha
    · rw [if_neg z] at h
      rcases List.mem_cons.mp hm with rfl | hm
      · exact absurd ha z
      · exact wishFrom_none h row hm ha
theorem filter_split {row left : List Str} {a : Str} (nd : row.Nodup) (nl : left.Nodup) (ha : a ∈ row) (hl : a ∈ left) (h : ahead left row a = []) :
    row.filter (fun s => decide (s ∈ left)) = a :: row.filter (fun s => decide (s ∈ left.erase a)) := by
  have hi : row.findIdx (· == a) < row.length := List.findIdx_lt_length_of_exists ⟨a, ha, by simp⟩
  have hat : row[row.findIdx (· == a)] = a := by
    have := List.findIdx_getElem (p := (· == a)) (xs := row) (w := hi)
    exact eq_of_beq this
  have e : row = row.take (row.findIdx (· == a)) ++ a :: row.drop (row.findIdx (· == a) + 1) := by
    conv => lhs; rw [← List.take_append_drop (row.findIdx (· == a)) row, List.drop_eq_getElem_cons hi, hat]
  unfold ahead at h
  generalize row.take (row.findIdx (· == a)) = u at *
  generalize row.drop (row.findIdx (· == a) + 1) = v at *
  subst e
  have h2 : u.filter (fun s => decide (s ∈ left.erase a)) = [] := by
    rw [List.filter_eq_nil_iff] at h ⊢
    intro s hs z
    exact h s hs (by have := of_decide_eq_true z; exact decide_eq_true (List.mem_of_mem_erase this))
  have h3 : v.filter (fun s => decide (s ∈ left.erase a)) = v.filter (fun s => decide (s ∈ left)) := by
    apply List.filter_congr
    intro s hs
    have hne : s ≠ a := by
      rintro rfl
      have := (List.nodup_append.mp nd).2.1
      rw [List.nodup_cons] at this
      exact this.1 hs
    simp [List.mem_erase_of_ne hne]
  rw [List.filter_append, h, List.filter_append, h2, List.filter_cons_of_pos (by simpa using hl), List.filter_cons_of_neg (by simp [List.Nodup.mem_erase_iff nl]), h3]
  rfl
structure Order (rs : List (List Str)) (order : List Str) : Prop where
  perm : order.Perm (namesOf rs)
  keep : ∀ r ∈ rs, order.filter (fun s => decide (s ∈ r)) = r
theorem mergeGo_ok {rs : List (List Str)} (hr : ∀ r ∈ rs, r.Nodup) : ∀ (n : Nat) (left found : List Str), left.length < n → left.Nodup → (found ++ left).Perm (namesOf rs) → (∀ r ∈ rs, found.filter (fun s => decide (s ∈ r)) ++ r.filter (fun s => decide (s ∈ left)) = r) →
    match mergeGo rs n left found with
    | .ok order => Order rs order
    | .error ring => IsRing rs ring
  | 0, left, found, hn, _, _, _ => by omega
  | n + 1, left, found, hn, nd, hp, hk => by
    unfold mergeGo
    by_cases z : left = []
    · rw [if_pos z]
      subst z
      rw [List.append_nil] at hp
      refine ⟨hp, fun r hr' => ?_⟩
      have := hk r hr'
      have e : r.filter (fun s => decide (s ∈ ([] : List Str))) = [] := List.filter_eq_nil_iff.mpr fun s _ h => by cases of_decide_eq_true h
      rw [e, List.append_nil] at this
      exact this
    · rw [if_neg z]
      cases hf : freeOf rs left with
      | nil =>
        show IsRing rs (ringOf rs left)
        obtain ⟨a0, t, rfl⟩ : ∃ a t, left = a :: t := by cases left with | nil => exact absurd rfl z | cons a t => exact ⟨a, t, rfl⟩
        obtain ⟨N, Wi, e, r1, r2, r3, r4, r5, r6⟩ := ringRun_ok (free_none hf) ((a0 :: t).length + 1) [a0] [] (by simp) (by simp) (by simp) rfl rfl (.inl (by simp)) (by simp)
        obtain ⟨l0, g0, q1, q2, q3, q4⟩ := ring_of_names r1 r2 r3 r4 r5 r6
        have er : ringOf rs (a0 :: t) = (Wi.drop g0).reverse := by
          unfold ringOf
          rw [show (a0 :: t).take 1 = [a0] from rfl, e]
          dsimp only
          rw [q1]
          show (Wi.drop ((N.findIdx? (· == l0)).getD 0)).reverse = _
          rw [q2]; rfl
        rw [er]
        exact q4
      | cons a t =>
        have ha : a ∈ freeOf rs left := by rw [hf]; exact List.mem_cons_self
        obtain ⟨ha, hw⟩ := List.mem_filter.mp ha
        have hw : wishOf rs left a = none := by simpa using hw
        have hle := List.length_erase_of_mem ha
        have hpos := List.length_pos_of_mem ha
        refine mergeGo_ok hr n (left.erase a) (found ++ [a]) (by omega) (nd.sublist List.erase_sublist) ?_ fun r hr' => ?_
        · refine List.Perm.trans ?_ hp
          rw [List.append_assoc]
          exact List.Perm.append_left _ (List.perm_cons_erase ha).symm
        · have hk' := hk r hr'
          by_cases har : a ∈ r
          · rw [filter_split (hr r hr') nd har ha (wishFrom_none hw r hr' har)] at hk'
            rw [List.filter_append, List.filter_cons_of_pos (by simpa using har), List.append_assoc]
            exact hk'
          · have e : r.filter (fun s => decide (s ∈ left.erase a)) = r.filter (fun s => decide (s ∈ left)) := by
              apply List.filter_congr
              intro s hs
              have hne : s ≠ a := by rintro rfl; exact har hs
              simp [List.mem_erase_of_ne hne]
            rw [List.filter_append, List.filter_cons_of_neg (by simpa using har), e, List.filter_nil, List.append_nil]
            exact hk'
theorem namesOf_mem {rs : List (List Str)} {r : List Str} {s : Str} (hr : r ∈ rs) (hs : s ∈ r) : s ∈ namesOf rs := mem_met (List.mem_flatten.mpr ⟨r, hr, hs⟩)
theorem merged_ok {rs : List (List Str)} (hr : ∀ r ∈ rs, r.Nodup) : match mergedOf rs with
    | .ok order => Order rs order
    | .error ring => IsRing rs ring := by
  refine mergeGo_ok hr _ _ _ (Nat.lt_succ_self _) (met_nodup _) (by simp) fun r hr' => ?_
  rw [List.filter_nil, List.nil_append]
  rw [List.filter_eq_self]
  intro s hs
  exact decide_eq_true (namesOf_mem hr' hs)
end Dl
namespace Dl
open PySem PySem.Spec PyProof.Rows L2
/-! ### sorted, all -/
class BoolsD (ds : List PyData) (bs : outParam (List Bool)) : Prop where
  e : boolsD ds = some bs
theorem boolsD_mapf {α : Type} (f : α → Bool) (xs : List α) : boolsD (xs.map fun x => .bool (f x)) = some (xs.map f) := by
  induction xs with
  | nil => rfl
  | cons x r ih => show (match boolsD (r.map fun x => .bool (f x)) with | some bs => some (f x :: bs) | none => none) = _; rw [ih]; rfl
instance {α : Type} {f : α → Bool} {xs : List α} : BoolsD (xs.map fun x => .bool (f x)) (xs.map f) := ⟨boolsD_mapf f xs⟩
theorem go_all {ds : List PyData} {bs : List Bool} {O : Oh} {R : DK} [b : BoolsD ds bs] (h : R (.d (.bool (bs.all id))) O) : dAll [.d (.list ds)] O R := by
  unfold dAll; dsimp only; rw [b.e]; exact h
instance {ds : List PyData} {bs : List Bool} {O : Oh} {R : DK} [b : BoolsD ds bs] : Go (dAll [.d (.list ds)] O R) (R (.d (.bool (bs.all id))) O) := ⟨go_all⟩
theorem alike_sD (xs : List Str) : alikeB (sD xs) = true := by
  unfold alikeB
  rw [List.all_eq_true]
  intro d hd
  obtain ⟨s, _, rfl⟩ := List.mem_map.mp hd
  rw [List.all_eq_true]
  intro e he
  obtain ⟨t, _, rfl⟩ := List.mem_map.mp he
  rfl
theorem sortable_sD (xs : List Str) : sortableB (sD xs) = true := by
  unfold sortableB
  rw [Bool.or_eq_true]
  right
  rw [List.all_eq_true]
  intro d hd
  obtain ⟨s, _, rfl⟩ := List.mem_map.mp hd
  rfl
class SrtS (x : W) (O : Oh) (xs : outParam (List Str)) : Prop where
  n : asDk x O = none
  e : asS x O = some ((sD xs).map W.d)
instance {O : Oh} {xs : List Str} : SrtS (.d (.tuple (xs.map PyData.str))) O xs := ⟨rfl, rfl⟩
instance {O : Oh} {xs : List Str} : SrtS (.d (.list (xs.map PyData.str))) O xs := ⟨rfl, rfl⟩
instance {O : Oh} {j : Nat} {xs : List Str} [g : Cl O j (.lst ((xs.map PyData.str).map W.d))] : SrtS (.c j) O xs := ⟨(inferInstance : NoDk (.c j) O).e, by unfold asS; dsimp only; rw [g.e]⟩
theorem go_sorted {x : W} {O : Oh} {xs : List Str} {R : DK} [q : SrtS x O xs] (h : R (.d (lS (srtS xs))) O) : dSorted [x] O R := by
  unfold dSorted; dsimp only; rw [q.n]; dsimp only; rw [q.e]; dsimp only; rw [datas_sD]; dsimp only
  rw [srtD_strs]
  exact ⟨alike_sD xs, sortable_sD xs, shp_sD 40 xs, h⟩
instance {x : W} {O : Oh} {xs : List Str} {R : DK} [q : SrtS x O xs] : Go (dSorted [x] O R) (R (.d (lS (srtS xs))) O) := ⟨go_sorted⟩
end Dl
namespace Dl
open PySem PySem.Spec PyProof.Rows L2
class AtN {α : Type} (xs : List α) (k : Nat) (x : outParam α) : Prop where
  e : xs[k]? = some x
instance {α : Type} {en : α → PyData} {xs : List α} {k : Nat} {x : α} [a : AtN xs k x] : Ix (xs.map en) (k : Nat) (en x) := ⟨atI_map (by rw [List.getElem?_map, a.e]; rfl)⟩
/-! #### + of lists, and slices of what is new -/
theorem go_addL {O : Oh} {R : DK} {xs ys : List Str} (hz : xs.length + ys.length ≤ 1000000) (h : R (.d (lS (xs ++ ys))) O) : dAdd (.d (lS xs)) (.d (lS ys)) O R := by
  show (sD xs).length + (sD ys).length ≤ 1000000 ∧ R (.d (.list (sD xs ++ sD ys))) O
  rw [List.length_map, List.length_map, ← List.map_append]
  exact ⟨hz, h⟩
theorem cut_drop' {α : Type} (xs : List α) : cutL xs (some 1) none = xs.drop 1 := cut_drop xs 1
end Dl
namespace Dl
open PySem PySem.Spec PyProof.Rows L2
/-! ### lists of numbers -/
theorem eqv_int (a b : Int) : PyData.eqv (.int a) (.int b) = decide (a = b) := by simp [PyData.eqv]; rfl
theorem Order.nd {rs : List (List Str)} {order : List Str} (k : Order rs order) : order.Nodup := k.perm.nodup_iff.mpr (met_nodup _)
theorem Order.mem {rs : List (List Str)} {order : List Str} (k : Order rs order) {r : List Str} {s : Str} (hr : r ∈ rs) (hs : s ∈ r) : s ∈ order := k.perm.mem_iff.mpr (namesOf_mem hr hs)
end Dl
namespace Dl
open PySem PySem.Spec PyProof.Rows L2
/-! ### pots -/
abbrev potC (x y : Int) : Cell := .lst (([.int x, .int y] : List PyData).map W.d)
def PotOk (x y : Int) : Prop := 0 ≤ x ∧ 0 ≤ y ∧ y < 1099511627776
def PotAt (O : Oh) (p : Nat) : Prop := ∃ x y, O[p]? = some (potC x y) ∧ PotOk x y
def Chg (p : Nat) (O O' : Oh) : Prop := p < O.length ∧ ∃ x y, O' = O.set p (potC x y) ∧ PotOk x y
theorem Chg.pot {p : Nat} {O O' : Oh} (h : Chg p O O') : PotAt O' p := by
  obtain ⟨hp, x, y, rfl, ok⟩ := h
  exact ⟨x, y, by rw [List.getElem?_set_self hp], ok⟩
theorem Chg.trans {p : Nat} {O O1 O2 : Oh} (h : Chg p O O1) (h2 : Chg p O1 O2) : Chg p O O2 := by
  obtain ⟨hp, x, y, rfl, ok⟩ := h
  obtain ⟨_, x2, y2, rfl, ok2⟩ := h2
  exact ⟨hp, x2, y2, by rw [List.set_set], ok2⟩
theorem PotAt.lt {O : Oh} {p : Nat} (h : PotAt O p) : p < O.length := by
  obtain ⟨x, y, e, _⟩ := h
  exact (List.getElem?_eq_some_iff.mp e).1
theorem PotAt.chg {O : Oh} {p : Nat} (h : PotAt O p) : Chg p O O := by
  have hl := h.lt
  obtain ⟨x, y, e, ok⟩ := h
  refine ⟨hl, x, y, ?_, ok⟩
  rw [List.getElem?_eq_getElem hl] at e
  injection e with e
  rw [← e, List.set_getElem_self]
theorem PotAt.app {O L : Oh} {p : Nat} (h : PotAt O p) : PotAt (O ++ L) p := by
  have hl := h.lt
  obtain ⟨x, y, e, ok⟩ := h
  exact ⟨x, y, by rw [List.getElem?_append_left hl]; exact e, ok⟩
theorem Chg.app {p : Nat} {O L S : Oh} (h : Chg p (O ++ L) S) (hp : p < O.length) : ∃ O1, S = O1 ++ L ∧ Chg p O O1 := by
  obtain ⟨_, x, y, rfl, ok⟩ := h
  exact ⟨O.set p (potC x y), by rw [List.set_append_left _ _ hp], hp, x, y, rfl, ok⟩
theorem Chg.len {p : Nat} {O O1 : Oh} (h : Chg p O O1) : O1.length = O.length := by
  obtain ⟨_, x, y, rfl, _⟩ := h
  rw [List.length_set]
theorem Chg.clo {p n : Nat} {O O1 : Oh} (h : Chg p O O1) (c : CloC n O) : CloC n O1 := by
  obtain ⟨_, x, y, rfl, _⟩ := h
  refine ⟨?_⟩
  have := c.e
  unfold Clo at this ⊢
  rw [List.all_eq_true] at this ⊢
  intro z hz
  rcases List.mem_or_eq_of_mem_set hz with hz | rfl
  · exact this z hz
  · rfl
/-- the store at the start, and as it is, but for the pot -/
structure Pt (p n : Nat) (O0 O : Oh) : Prop where
  chg : Chg p O0 O
  l : Len O n
  c : CloC n O
theorem Pt.start {p n : Nat} {O : Oh} (h : PotAt O p) (l : Len O n) (c : CloC n O) : Pt p n O O := ⟨h.chg, l, c⟩
theorem Pt.lt {p n : Nat} {O0 O : Oh} (h : Pt p n O0 O) : p < O.length := by rw [h.chg.len]; exact h.chg.1
theorem Pt.step {p n : Nat} {O0 O L S : Oh} (h : Pt p n O0 O) (k : Chg p (O ++ L) S) : ∃ O1, S = O1 ++ L ∧ Pt p n O0 O1 := by
  obtain ⟨O1, e, k⟩ := k.app h.lt
  exact ⟨O1, e, h.chg.trans k, ⟨by rw [k.len]; exact h.l.e⟩, k.clo h.c⟩
/-- a def that draws from the pot at p -/
def Draws (p : Nat) (f : DFn) (args : List W) (Q : PyData → Prop) : Prop := ∀ (O : Oh) (R : DK) (xe : Exn → Oh → Prop), PotAt O p → (∀ v O', Q v → Chg p O O' → R (.d v) O') → f args O R xe
theorem pt_call {p n : Nat} {f : DFn} {args : List W} {Q : PyData → Prop} {O0 O L : Oh} {R : DK} {xe : Exn → Oh → Prop} (d : Draws p f args Q) (h : Pt p n O0 O)
    (k : ∀ v O1, Q v → Pt p n O0 O1 → R (.d v) (O1 ++ L)) : f args (O ++ L) R xe := by
  refine d _ _ _ (PotAt.app (h.chg.pot)) fun v O' hq hc => ?_
  obtain ⟨O1, rfl, h1⟩ := h.step hc
  exact k v O1 hq h1
theorem digit_draws {p : Nat} {m : Int} (hm : 0 < m) (hz : m ≤ 4611686018427387904) : Draws p w__law_digit [.c p, .d (.int m)] fun v => ∃ d : Nat, v = .int d ∧ (d : Int) < m := by
  intro O R xe hp h
  have hlt := hp.lt
  obtain ⟨x, y, e, ok⟩ := hp
  obtain ⟨ok1, ok2, ok3⟩ := id ok
  refine def_start rfl fun n l cl => ?_
  haveI : Cl O p (potC x y) := ⟨e⟩
  repeat refine Go.h ?_
  refine dcase (fun hx => ?_) (fun hx => ?_)
  · repeat refine Go.h ?_
    refine ⟨hm, ?_⟩
    repeat refine Go.h ?_
    refine ⟨⟨hm, ?_⟩, ?_⟩
    · have h1 : m.natAbs < 2 ^ 63 := by omega
      have h2 : m.natAbs.log2 < 63 := (Nat.log2_lt (by omega)).mpr h1
      omega
    repeat refine Go.h ?_
    have hc : Chg p O (O.set p (potC (x / m) y)) := ⟨hlt, _, _, rfl, Int.ediv_nonneg ok1 (by omega), ok2, ok3⟩
    refine putix_lst (m := 0) rfl ?_
    rw [List.set_append_left _ _ hlt]
    haveI := hc.clo cl
    haveI : Len (O.set p (potC (x / m) y)) n := ⟨by rw [hc.len]; exact l.e⟩
    show dRet _ _ _ _ (O.set p (potC (x / m) y) ++ [])
    repeat refine Go.h ?_
    refine h _ _ ⟨(x % m).toNat, ?_, ?_⟩ hc
    · rw [Int.toNat_of_nonneg (Int.emod_nonneg _ (by omega))]
    · rw [Int.toNat_of_nonneg (Int.emod_nonneg _ (by omega))]; exact Int.emod_lt_of_pos _ hm
  · repeat refine Go.h ?_
    refine ⟨.inl ⟨by omega, by omega⟩, ?_⟩
    repeat refine Go.h ?_
    refine ⟨by decide, ?_⟩
    repeat refine Go.h ?_
    have hc : Chg p O (O.set p (potC x ((y * 39373 + 20011) % 2147483647))) := ⟨hlt, _, _, rfl, ok1, Int.emod_nonneg _ (by decide), Int.lt_trans (Int.emod_lt_of_pos _ (by decide)) (by decide)⟩
    refine putix_lst (m := 1) rfl ?_
    rw [List.set_append_left _ _ hlt]
    haveI := hc.clo cl
    have y2 := Int.emod_nonneg (y * 39373 + 20011) (b := 2147483647) (by decide)
    have y3 := Int.emod_lt_of_pos (y * 39373 + 20011) (b := 2147483647) (by decide)
    generalize (y * 39373 + 20011) % 2147483647 = z at *
    haveI : Len (O.set p (potC x z)) n := ⟨by rw [hc.len]; exact l.e⟩
    haveI : Cl (O.set p (potC x z)) p (potC x z) := ⟨List.getElem?_set_self hlt⟩
    show dRet _ _ _ _ (O.set p (potC x z) ++ [])
    repeat refine Go.h ?_
    refine ⟨.inl ⟨by omega, by omega⟩, ?_⟩
    repeat refine Go.h ?_
    refine ⟨by decide, ?_⟩
    repeat refine Go.h ?_
    refine ⟨⟨by decide, by decide⟩, ?_⟩
    repeat refine Go.h ?_
    refine ⟨hm, ?_⟩
    repeat refine Go.h ?_
    refine h _ _ ⟨(z * z % 2147483563 / 11 % m).toNat, ?_, ?_⟩ hc
    · rw [Int.toNat_of_nonneg (Int.emod_nonneg _ (by omega))]
    · rw [Int.toNat_of_nonneg (Int.emod_nonneg _ (by omega))]; exact Int.emod_lt_of_pos _ hm
end Dl
namespace Dl
open PySem PySem.Spec PyProof.Rows L2
/-! ### letters -/
abbrev sg (c : Nat) : Str := ⟨#[c]⟩
theorem len_cps (s : Str) : s.length = s.cps.toList.length := rfl
theorem letters_at : ∀ d : Nat, d < 26 → ("abcdefghijklmnopqrstuvwxyz" : Str).cps.toList[d]? = some (97 + d) := by decide +kernel
theorem go_ixS {s : Str} {i : Int} {c : Nat} {O : Oh} {R : DK} (hl : s.length ≤ 1000000) (hc : atI s.cps.toList i = some c) (h : R (.d (.str (sg c))) O) : dIx2 (.d (.str s)) (.d (.int i)) O R := by
  show (s.length ≤ 1000000 ∧ _)
  refine ⟨hl, ?_⟩
  rw [hc]
  exact h
theorem go_letter {d : Nat} {O : Oh} {R : DK} (hd : d < 26) (h : R (.d (.str (sg (97 + d)))) O) : dIx2 (.d (.str "abcdefghijklmnopqrstuvwxyz")) (.d (.int (d : Nat))) O R :=
  go_ixS (by decide +kernel) (atI_nat (letters_at d hd)) h
def kJoin2 (z : Str) (R : DK) : DK := fun x O2 => match asS x O2 with
  | some ws => (match datas ws with
    | some ds => (match strsD ds with
      | some ys => (ys.map (·.length)).sum + ys.length * z.length ≤ 1000000 ∧ R (.d (.str (Txt.join z ys))) O2
      | none => False)
    | none => False)
  | none => False
def kJoin1 (wa : DEx) (Γ : Gm) (R : DK) (xe : DX) : DK := fun o O1 => match o with
  | .d (.str z) => wa Γ O1 (kJoin2 z R) xe
  | _ => False
instance {R : DK} {Γ : Gm} {O : Oh} {xe : DX} {wo wa : DEx} : Go (dJoin wo wa Γ O R xe) (wo Γ O (kJoin1 wa Γ R xe) xe) := ⟨fun h => h⟩
instance {R : DK} {Γ : Gm} {O : Oh} {xe : DX} {wa : DEx} {z : Str} : Go (kJoin1 wa Γ R xe (.d (.str z)) O) (wa Γ O (kJoin2 z R) xe) := ⟨fun h => h⟩
theorem go_join {x : W} {O : Oh} {ys : List Str} {z : Str} {R : DK} [q : SrtS x O ys] (hz : (ys.map (·.length)).sum + ys.length * z.length ≤ 1000000) (h : R (.d (.str (Txt.join z ys))) O) : kJoin2 z R x O := by
  unfold kJoin2; rw [q.e]; dsimp only; rw [datas_sD]; dsimp only; rw [strsD_map]; exact ⟨hz, h⟩
theorem sum_len {ys : List Str} (h : ∀ y ∈ ys, y.length ≤ 1) : (ys.map (·.length)).sum ≤ ys.length := by
  induction ys with
  | nil => simp
  | cons y r ih =>
    have h1 := h y List.mem_cons_self
    have h2 := ih fun y hy => h y (List.mem_cons_of_mem _ hy)
    simp only [List.map_cons, List.sum_cons, List.length_cons]
    omega
theorem strOk_sg {c : Nat} (h : c < 1114112) : PyData.strOk (sg c) = true := by
  unfold PyData.strOk; simp [h]
theorem strOk_join0 {ys : List Str} (h : ∀ y ∈ ys, PyData.strOk y = true) : PyData.strOk (Txt.join "" ys) = true := strOk_join (by decide +kernel) (List.all_eq_true.mpr h)
theorem go_slS {s : Str} {lo hi : Option Int} {O : Oh} {R : DK} (hl : s.length ≤ 1000000) (h : R (.d (.str (cutS s lo hi))) O) : dSl (.d (.str s)) lo hi O R := ⟨hl, h⟩
theorem len_app (a b : Str) : (a ++ b).length = a.length + b.length := by
  show (a.cps ++ b.cps).size = _
  rw [Array.size_append]; rfl
theorem go_addS {a b : Str} {O : Oh} {R : DK} (hl : a.length + b.length ≤ 1000000) (h : R (.d (.str (a ++ b))) O) : dAdd (.d (.str a)) (.d (.str b)) O R := ⟨hl, h⟩
def cand (u : Str) (t : Nat) : Str := u ++ sg (97 + t) ++ "q"
theorem cps_app (a b : Str) : (a ++ b).cps.toList = a.cps.toList ++ b.cps.toList := by
  show (a.cps ++ b.cps).toList = _
  rw [Array.toList_append]
theorem cand_inj {u : Str} {s t : Nat} (h : cand u s = cand u t) : s = t := by
  have h := congrArg (fun x : Str => x.cps.toList) h
  unfold cand at h
  simp only [cps_app, List.append_assoc] at h
  have h := List.append_cancel_left h
  injection h with h _
  omega
theorem cut_len6 (s : Str) : (cutS s none (some 6)).length ≤ 6 := by
  unfold cutS
  rw [HT.sIx_none, show (6 : Int) = ((6 : Nat) : Int) from rfl, HT.sIx_nat]
  show (List.toArray _).size ≤ 6
  rw [List.size_toArray, List.length_take]
  omega
theorem cand_ok {s : Str} {t : Nat} (h : OkS s) (ht : t < 26) : OkS (cand (cutS s none (some 6)) t) := by
  refine ⟨strOk_append (strOk_append (strOk_cut h.1) (strOk_sg (by omega))) (by decide +kernel), ?_⟩
  unfold cand
  rw [len_app, len_app]
  have := cut_len6 s
  show _ + 1 + 1 ≤ 12
  omega
/-- one of many unlike ones is not among few -/
theorem one_new {xs found : List Str} (nd : xs.Nodup) (h : found.length < xs.length) : (xs.filter fun s => decide (s ∉ found)) ≠ [] := by
  intro e
  rw [List.filter_eq_nil_iff] at e
  have := nodup_sub_len nd fun x hx => Classical.byContradiction fun z => e x hx (decide_eq_true z)
  omega
theorem cands_nd (u : Str) (n : Nat) : ((List.range n).map (cand u)).Nodup := by
  unfold List.Nodup
  rw [List.pairwise_map]
  exact List.Pairwise.imp (fun {a b} hab e => hab (cand_inj e)) List.nodup_range
/-- a name -/
def IsNm (s : Str) : Prop := 1 ≤ s.length ∧ s.length ≤ 8 ∧ ∀ c ∈ s.cps.toList, 97 ≤ c ∧ c < 123
structure NamesD (xs : List Str) (m : Nat) : Prop where
  nd : xs.Nodup
  ok : ∀ s ∈ xs, OkS s
  len : xs.length = m
  low : ∀ s ∈ xs, IsNm s
theorem join_len1 {ys : List Str} (h : ∀ y ∈ ys, y.length = 1) : (Txt.join "" ys).length = ys.length := by
  rw [len_cps, join_list, List.length_append]
  have e : ∀ zs : List Str, (∀ y ∈ zs, y.length = 1) → ((zs.map fun p => ("" : Str).cps.toList ++ p.cps.toList).flatten).length = zs.length := by
    intro zs
    induction zs with
    | nil => intro _; simp
    | cons z r ih =>
      intro h
      rw [List.map_cons, List.flatten_cons, List.length_append, List.length_cons, List.length_append]
      have h1 := h z List.mem_cons_self
      rw [len_cps] at h1
      have h2 := ih fun y hy => h y (List.mem_cons_of_mem _ hy)
      have h3 : ("" : Str).cps.toList.length = 0 := rfl
      omega
  cases ys with
  | nil => rfl
  | cons y r =>
    have h1 := h y List.mem_cons_self
    rw [len_cps] at h1
    have h2 := e r fun y hy => h y (List.mem_cons_of_mem _ hy)
    simp only [List.headD_cons, List.drop_succ_cons, List.drop_zero, List.length_cons] at h2 ⊢
    omega
theorem low_join {ys : List Str} (h : ∀ y ∈ ys, ∀ c ∈ y.cps.toList, 97 ≤ c ∧ c < 123) : ∀ c ∈ (Txt.join "" ys).cps.toList, 97 ≤ c ∧ c < 123 := fun c hc => by
  rcases join_cps _ _ c hc with hc | ⟨y, hy, hc⟩
  · cases hc
  · exact h y hy c hc
theorem cut_mem {s : Str} {lo hi : Option Int} {c : Nat} (h : c ∈ (cutS s lo hi).cps.toList) : c ∈ s.cps.toList := by
  unfold cutS at h
  simp only [] at h
  exact List.mem_of_mem_drop (List.mem_of_mem_take h)
theorem cand_low {s : Str} {t : Nat} (h : IsNm s) (ht : t < 26) : IsNm (cand (cutS s none (some 6)) t) := by
  obtain ⟨h1, h2, h3⟩ := h
  have h6 := cut_len6 s
  refine ⟨?_, ?_, fun c hc => ?_⟩
  · unfold cand
    rw [len_app, len_app]
    show 1 ≤ _ + 1 + 1
    omega
  · unfold cand
    rw [len_app, len_app]
    show _ + 1 + 1 ≤ 8
    omega
  · unfold cand at hc
    rw [cps_app, cps_app, List.mem_append, List.mem_append] at hc
    rcases hc with (hc | hc) | hc
    · exact h3 c (cut_mem hc)
    · have : c = 97 + t := by simpa using hc
      omega
    · have : c = 113 := by simpa using (show c ∈ [113] from hc)
      omega
theorem NamesD.snoc {xs : List Str} {m : Nat} {s : Str} (nm : NamesD xs m) (hs : s ∉ xs) (ok : OkS s) (low : IsNm s) : NamesD (xs ++ [s]) (m + 1) := by
  refine ⟨?_, ?_, by simp [nm.len], ?_⟩
  · rw [List.nodup_append]
    refine ⟨nm.nd, by simp, fun a ha b hb => ?_⟩
    rw [List.mem_singleton] at hb
    subst hb
    intro e
    subst e
    exact hs ha
  · intro t ht
    rcases List.mem_append.mp ht with ht | ht
    · exact nm.ok t ht
    · rw [List.mem_singleton.mp ht]; exact ok
  · intro t ht
    rcases List.mem_append.mp ht with ht | ht
    · exact nm.low t ht
    · rw [List.mem_singleton.mp ht]; exact low
/-! ### names are drawn -/
theorem digit_at {p n : Nat} {m : Int} {O0 O L : Oh} {R : DK} {xe : Exn → Oh → Prop} (hm : 0 < m) (hz : m ≤ 4611686018427387904) (h : Pt p n O0 O) (k : ∀ (d : Nat) O1, (d : Int) < m → Pt p n O0 O1 → R (.d (.int d)) (O1 ++ L)) : w__law_digit [.c p, .d (.int m)] (O ++ L) R xe :=
  pt_call (digit_draws hm hz) h fun v O1 ⟨d, e, hd⟩ h1 => by subst e; exact k d O1 hd h1
theorem names_draw {p : Nat} {m : Nat} (hm : m ≤ 20) : Draws p w__law_names [.c p, .d (.int m)] fun v => ∃ xs, v = lS xs ∧ NamesD xs m := by
  intro O R xe hp h
  refine def_start rfl fun n l cl => ?_
  repeat refine Go.h ?_
  refine go_rng (by omega) ?_
  repeat refine Go.h ?_
  refine for_rng (fun k Γ S => ∃ O1 found a b c d e f, Γ = [some (.c p), some (.d (.int m)), some (.d (.str "abcdefghijklmnopqrstuvwxyz")), some (.c (n + 0)), a, b, c, d, e, f] ∧ S = O1 ++ [cS found] ∧ Pt p n O O1 ∧ NamesD found k)
    ⟨O, [], _, _, _, _, _, _, rfl, rfl, Pt.start hp l cl, List.nodup_nil, by simp, rfl, by simp⟩ ?_ ?_
  · rintro Γ S ⟨O1, found, a, b, c, d, e, f, rfl, rfl, pt, nm⟩
    haveI := pt.l
    haveI := pt.c
    repeat refine Go.h ?_
    exact h _ _ ⟨found, rfl, nm⟩ pt.chg
  · rintro k Γ S hk ⟨O1, found, a, b, c, d, e, f, rfl, rfl, pt, nm⟩ C hC
    haveI := pt.l
    haveI := pt.c
    repeat refine Go.h ?_
    refine digit_at (by decide) (by decide) pt fun d0 O2 hd0 pt => ?_
    repeat refine Go.h ?_
    have hi : ∃ m : Nat, atI (([PyData.int 1, .int 2, .int 8] : List PyData).map W.d) (d0 : Nat) = some (.d (.int m)) ∧ 1 ≤ m ∧ m ≤ 8 := by
      have : d0 = 0 ∨ d0 = 1 ∨ d0 = 2 := by omega
      rcases this with rfl | rfl | rfl
      · exact ⟨1, rfl, by decide, by decide⟩
      · exact ⟨2, rfl, by decide, by decide⟩
      · exact ⟨8, rfl, by decide, by decide⟩
    obtain ⟨w, hw, hw1, hw2⟩ := hi
    refine go_ix hw ?_
    repeat refine Go.h ?_
    haveI := pt.l
    haveI := pt.c
    refine digit_at (by omega) (by omega) pt fun d1 O3 hd1 pt => ?_
    haveI := pt.l
    haveI := pt.c
    repeat refine Go.h ?_
    rw [show (1 : Int) + (d1 : Nat) = ((d1 + 1 : Nat) : Int) by omega]
    repeat refine Go.h ?_
    refine go_rng (by omega) ?_
    repeat refine Go.h ?_
    refine lc_rng (fun k acc S => ∃ O4 cs, S = O4 ++ [cS found] ∧ Pt p n O O4 ∧ acc = sD cs ∧ (∀ c ∈ cs, c.length = 1 ∧ PyData.strOk c = true ∧ ∀ x ∈ c.cps.toList, 97 ≤ x ∧ x < 123) ∧ cs.length = k)
      ⟨O3, [], rfl, pt, rfl, by simp, rfl⟩ ?_ ?_
    rotate_left
    · rintro k1 acc S hk1 ⟨O4, cs, rfl, pt, rfl, hcs, hl⟩ C2 N2 hC2 hN2
      haveI := pt.l
      haveI := pt.c
      repeat refine Go.h ?_
      refine digit_at (by decide) (by decide) pt fun d2 O5 hd2 pt => ?_
      repeat refine Go.h ?_
      refine go_letter (by omega) ?_
      refine hC2 _ _ (by simp; omega) ⟨O5, cs ++ [sg (97 + d2)], rfl, pt, by simp, ?_, by simp [hl]⟩
      intro c hc
      rcases List.mem_append.mp hc with hc | hc
      · exact hcs c hc
      · rw [List.mem_singleton.mp hc]; exact ⟨rfl, strOk_sg (by omega), fun x hx => by
          have : x = 97 + d2 := by simpa using hx
          omega⟩
    · rintro acc S ⟨O4, cs, rfl, pt, rfl, hcs, hl⟩
      haveI := pt.l
      haveI := pt.c
      have hj := join_len1 fun c hc => (hcs c hc).1
      have hs := sum_len fun c hc => Nat.le_of_eq (hcs c hc).1
      refine go_join (by rw [show ("" : Str).length = 0 from rfl]; omega) ?_
      have ok : OkS (Txt.join "" cs) := ⟨strOk_join0 fun c hc => (hcs c hc).2.1, by omega⟩
      have low : IsNm (Txt.join "" cs) := ⟨by omega, by omega, low_join fun c hc => (hcs c hc).2.2⟩
      have hj8 : (Txt.join "" cs).length ≤ 8 := by omega
      generalize Txt.join "" cs = name at *
      repeat refine Go.h ?_
      refine dcase (fun hm => ?_) (fun hm => ?_)
      · repeat refine Go.h ?_
        rw [show (m : Int) + 1 = ((m + 1 : Nat) : Int) by omega]
        refine go_rng (by omega) ?_
        rw [rgW_range]
        repeat refine Go.h ?_
        refine lc_all (fun t : Nat => PyData.int t) (fun t => .str (cand (cutS name none (some 6)) t)) trivial (by rw [List.length_range]; omega) (fun t ht C3 hC3 => ?_) ?_
        · have ht : t < m + 1 := List.mem_range.mp ht
          repeat refine Go.h ?_
          refine go_slS (by omega) ?_
          repeat refine Go.h ?_
          refine go_letter (by omega) ?_
          repeat refine Go.h ?_
          have h6 := cut_len6 name
          refine go_addS (by show _ + 1 ≤ _; omega) ?_
          repeat refine Go.h ?_
          refine go_addS (by rw [len_app]; show _ + 1 + 1 ≤ _; omega) ?_
          exact hC3
        repeat refine Go.h ?_
        have e1 : ((List.range (m + 1)).map fun t => PyData.str (cand (cutS name none (some 6)) t)) = sD ((List.range (m + 1)).map (cand (cutS name none (some 6)))) := by unfold sD; rw [List.map_map]; rfl
        rw [e1]
        refine lc_mapD PyData.str (fun s => decide (s ∉ found)) PyData.str trivial (by simp; omega) (fun x _ C3 hC3 => ?_) (fun x _ _ C3 hC3 => ?_) ?_
        · repeat refine Go.h ?_
          exact hC3
        · repeat refine Go.h ?_
          exact hC3
        have hne := one_new (found := found) (cands_nd (cutS name none (some 6)) (m + 1)) (by rw [nm.len]; simp; omega)
        cases hf : ((List.range (m + 1)).map (cand (cutS name none (some 6)))).filter (fun s => decide (s ∉ found)) with
        | nil => exact absurd hf hne
        | cons s0 t0 =>
          have hs0 : s0 ∈ ((List.range (m + 1)).map (cand (cutS name none (some 6)))).filter (fun s => decide (s ∉ found)) := by rw [hf]; exact List.mem_cons_self
          obtain ⟨q1, q2⟩ := List.mem_filter.mp hs0
          obtain ⟨t, ht, rfl⟩ := List.mem_map.mp q1
          have ht : t < m + 1 := List.mem_range.mp ht
          repeat refine Go.h ?_
          refine go_append (by simp; have := nm.len; omega) (str_snoc _ _) ?_
          repeat refine Go.h ?_
          exact hC _ _ ⟨O4, _, _, _, _, _, _, _, rfl, rfl, pt, nm.snoc (of_decide_eq_true q2) (cand_ok ok (by omega)) (cand_low low (by omega))⟩
      · repeat refine Go.h ?_
        refine go_append (by simp; have := nm.len; omega) (str_snoc _ _) ?_
        repeat refine Go.h ?_
        exact hC _ _ ⟨O4, found ++ [name], _, _, _, _, _, _, rfl, rfl, pt, nm.snoc hm ok low⟩
end Dl
namespace Dl
open PySem PySem.Spec PyProof.Rows L2
theorem ixN_nat {n d : Nat} (h : d < n) : ixN n (d : Nat) = some d := by
  unfold ixN
  rw [if_pos (by omega), if_pos (by omega), Int.toNat_natCast]
theorem NamesD.perm {xs ys : List Str} {m : Nat} (h : NamesD xs m) (p : ys.Perm xs) : NamesD ys m := ⟨p.nodup_iff.mpr h.nd, fun s hs => h.ok s (p.mem_iff.mp hs), p.length_eq.trans h.len, fun s hs => h.low s (p.mem_iff.mp hs)⟩
/-- ways that come together again -/
theorem join_st {s : DSt} {f b c : Gm → Oh → Prop} {r : DK} {xe : DX} {Γ : Gm} {O : Oh} (J : Gm → Oh → Prop) (h2 : ∀ C : Gm → Oh → Prop, (∀ Γ' O', J Γ' O' → C Γ' O') → s ⟨C, r, b, c⟩ xe Γ O) (h1 : ∀ Γ' O', J Γ' O' → f Γ' O') : s ⟨f, r, b, c⟩ xe Γ O := h2 f h1
structure RowsD (a b : Nat) (rs : List (List Str)) : Prop where
  few : rs.length ≤ b
  ex : ∃ xs m, NamesD xs m ∧ m ≤ a ∧ ∀ r ∈ rs, r.Nodup ∧ ∀ s ∈ r, s ∈ xs
theorem RowsD.good {a b : Nat} {rs : List (List Str)} (h : RowsD a b rs) (ha : a ≤ 8) (hb : b ≤ 6) : GoodR rs := by
  obtain ⟨xs, m, nm, hm, hr⟩ := h.ex
  refine ⟨Nat.le_trans h.few hb, fun r hrr => ⟨(hr r hrr).1, ?_, fun s hs => nm.ok s ((hr r hrr).2 s hs)⟩⟩
  have := nodup_sub_len (hr r hrr).1 (hr r hrr).2
  have := nm.len
  omega
end Dl
namespace Dl
open PySem PySem.Spec PyProof.Rows L2
/-! ### the pot -/
abbrev scr (ns : List Int) : PyData := .dict [(.none, .list (ns.map PyData.int))]
instance {O : Oh} {ns : List Int} : Fz (.d (.dict [(.none, .list (ns.map PyData.int))])) O (ns.map PyData.int) := ⟨rfl, rfl⟩
theorem sp_pot {ns : List Int} {k : Nat} (hk : k < 1000) {O : Oh} {R : DK} {xe : Exn → Oh → Prop} (h : ∀ x y, PotOk x y → R (.c O.length) (O ++ [potC x y])) : w__law_pot [.d (scr ns), .d (.int k)] O R xe := by
  refine def_startC rfl fun n l cl => ?_
  obtain rfl : O.length = n := l.e
  repeat (fail_if_success with_reducible show dIf _ _ _ _ _ _ _); refine Go.h ?_
  refine join_st (fun Γ' S => ∃ x : Int, Γ' = [some (.d (scr ns)), some (.d (.int k)), some (.d (.int x))] ∧ S = O ++ []) ?_ ?_
  · intro C hC
    repeat refine Go.h ?_
    refine dcase (fun z => ?_) (fun z => ?_)
    · simp at z
      repeat refine Go.h ?_
      refine go_ix (d := .int (ns[k]'(by omega))) (atI_map (by simp)) ?_
      repeat refine Go.h ?_
      exact hC _ _ ⟨_, rfl, rfl⟩
    · repeat refine Go.h ?_
      exact hC _ _ ⟨_, rfl, rfl⟩
  · rintro Γ S ⟨x, rfl, rfl⟩
    repeat refine Go.h ?_
    refine ⟨⟨by decide, by decide, by decide⟩, ?_⟩
    repeat refine Go.h ?_
    refine ⟨by decide, ?_⟩
    repeat refine Go.h ?_
    refine ⟨.inl ⟨by decide, by decide⟩, ?_⟩
    repeat refine Go.h ?_
    refine h _ _ ⟨?_, ?_, ?_⟩
    · split <;> omega
    · have : 0 ≤ (if x < 0 then -x else x) % 2147483587 := Int.emod_nonneg _ (by decide)
      omega
    · have : (if x < 0 then -x else x) % 2147483587 < 2147483587 := Int.emod_lt_of_pos _ (by decide)
      omega
/-! ### try -/
def kEx (f : Gm → Oh → Prop) (i : Nat) : Gm → Oh → Prop := fun Γ1 O1 => f (Γ1.set i none) O1
instance {f : Gm → Oh → Prop} {i : Nat} {Γ Γ' : Gm} {O : Oh} [p : Put Γ i none Γ'] : Go (kEx f i Γ O) (f Γ' O) := ⟨fun h => by unfold kEx; rw [p.e]; exact h⟩
theorem eqvAll_refl {n : Nat} (h : ∀ d, shp n d = true → PyData.eqv d d = true) : ∀ ds : List PyData, ds.all (shp n) = true → PyData.eqvAll ds ds = true
  | [], _ => by simp [PyData.eqvAll]
  | d :: r, e => by
    rw [List.all_cons, Bool.and_eq_true] at e
    simp only [PyData.eqvAll, h d e.1, eqvAll_refl h r e.2, Bool.and_self]
theorem eqv_refl : ∀ (n : Nat) (d : PyData), shp n d = true → PyData.eqv d d = true
  | n, .none, _ => rfl
  | n, .bool b, _ => by cases b <;> rfl
  | n, .int i, _ => by rw [eqv_int]; simp
  | n, .str s, _ => by rw [eqv_str]; simp
  | 0, .list ds, h | 0, .tuple ds, h => by cases h
  | n + 1, .list ds, h => by simp only [PyData.eqv]; exact eqvAll_refl (eqv_refl n) ds h
  | n + 1, .tuple ds, h => by simp only [PyData.eqv]; exact eqvAll_refl (eqv_refl n) ds h
  | 0, .dict _, h | _ + 1, .dict _, h => by cases h
theorem go_neSame {d : PyData} {O : Oh} {R : DK} (hs : shp 40 d = true) (h : R (.d (.bool false)) O) : dNe (.d d) (.d d) O R := by
  refine ⟨hs, hs, ?_⟩
  rw [eqv_refl 40 d hs]
  exact h
end Dl
namespace Dl
open PySem PySem.Spec PyProof.Rows L2
/-! ### ranks -/
def rank (rs : List (List Str)) (s : Str) : Nat := rs.findIdx fun r => decide (s ∈ r)
theorem rank_at {pre q : List (List Str)} {row : List Str} {s : Str} (h : s ∉ pre.flatten) (hs : s ∈ row) : rank (pre ++ row :: q) s = pre.length := by
  unfold rank
  rw [List.findIdx_append]
  have e : pre.findIdx (fun r => decide (s ∈ r)) = pre.length := by
    rw [List.findIdx_eq_length]
    intro r hr
    exact decide_eq_false fun z => h (List.mem_flatten.mpr ⟨r, hr, z⟩)
  rw [e, if_neg (Nat.lt_irrefl _), List.findIdx_cons]
  simp [hs]
theorem rank_lt {pre q : List (List Str)} {s : Str} (h : s ∈ pre.flatten) : rank (pre ++ q) s < pre.length := by
  obtain ⟨r, hr, hs⟩ := List.mem_flatten.mp h
  unfold rank
  rw [List.findIdx_append]
  have : pre.findIdx (fun r => decide (s ∈ r)) < pre.length := List.findIdx_lt_length_of_exists ⟨r, hr, by simpa using hs⟩
  rw [if_pos this]
  exact this
theorem names_sorted_aux (rs : List (List Str)) : ∀ (q pre : List (List Str)), rs = pre ++ q → ((met pre.flatten).Pairwise fun a b => rank rs a ≤ rank rs b) → ((met rs.flatten).Pairwise fun a b => rank rs a ≤ rank rs b)
  | [], pre, e, h => by rw [List.append_nil] at e; rw [e] at h ⊢; exact h
  | row :: q, pre, e, h => by
    refine names_sorted_aux rs q (pre ++ [row]) (by rw [e]; simp) ?_
    have : ∀ (rest done : List Str), row = done ++ rest → ((met (pre.flatten ++ done)).Pairwise fun a b => rank rs a ≤ rank rs b) → ((met (pre.flatten ++ row)).Pairwise fun a b => rank rs a ≤ rank rs b) := by
      intro rest
      induction rest with
      | nil => intro done e2 h; rw [List.append_nil] at e2; rw [e2]; exact h
      | cons s rest ih =>
        intro done e2 h
        refine ih (done ++ [s]) (by rw [e2]; simp) ?_
        rw [← List.append_assoc, met_snoc]
        unfold addMet
        split
        · exact h
        · next c =>
          rw [List.pairwise_append]
          refine ⟨h, by simp, fun a ha b hb => ?_⟩
          rw [List.mem_singleton] at hb
          subst hb
          have hs : b ∈ row := by rw [e2]; simp
          have hb : b ∉ pre.flatten := fun z => c (List.any_eq_true.mpr ⟨b, mem_met (List.mem_append_left _ z), by simp⟩)
          rw [show rank rs b = pre.length by rw [e, rank_at hb hs]]
          have ha := met_strs ha
          by_cases z : a ∈ pre.flatten
          · rw [e]; exact Nat.le_of_lt (rank_lt z)
          · have hr : a ∈ row := by
              rcases List.mem_append.mp ha with h | h
              · exact absurd h z
              · rw [e2]; exact List.mem_append_left _ h
            rw [e, rank_at z hr]
            exact Nat.le_refl _
    have := this row [] rfl (by rw [List.append_nil]; exact h)
    simpa using this
theorem names_sorted (rs : List (List Str)) : (namesOf rs).Pairwise fun a b => rank rs a ≤ rank rs b := names_sorted_aux rs rs [] rfl List.Pairwise.nil
theorem ahead_head {left row : List Str} {c : Str} {t : List Str} (h : row.filter (fun s => decide (s ∈ left)) = c :: t) : ahead left row c = [] := by
  cases hu : ahead left row c with
  | nil => rfl
  | cons x u =>
    exfalso
    have hx : x ∈ ahead left row c := by rw [hu]; exact List.mem_cons_self
    have e : row = row.take (row.findIdx (· == c)) ++ row.drop (row.findIdx (· == c)) := (List.take_append_drop _ _).symm
    rw [e, List.filter_append] at h
    unfold ahead at hu
    rw [hu] at h
    injection h with h1 _
    subst h1
    have := (mem_ahead hx).2.2
    omega
theorem wishFrom_free {left : List Str} {a : Str} : ∀ {k : Nat} {q : List (List Str)}, (∀ row ∈ q, a ∈ row → ahead left row a = []) → wishFrom left a k q = none
  | _, [], _ => rfl
  | k, row :: q, h => by
    unfold wishFrom
    have ih : wishFrom left a (k + 1) q = none := wishFrom_free fun r hr => h r (List.mem_cons_of_mem _ hr)
    split
    · next ha =>
      rw [h row List.mem_cons_self ha]
      exact ih
    · exact ih
theorem rank_row {rs : List (List Str)} {s : Str} (h : ∃ r ∈ rs, s ∈ r) : ∃ hl : rank rs s < rs.length, s ∈ rs[rank rs s] := by
  obtain ⟨r, hr, hs⟩ := h
  have hl : rank rs s < rs.length := List.findIdx_lt_length_of_exists ⟨r, hr, by simpa using hs⟩
  refine ⟨hl, ?_⟩
  have := List.findIdx_getElem (p := fun r => decide (s ∈ r)) (xs := rs) (w := hl)
  exact of_decide_eq_true this
end Dl
namespace Dl
open PySem PySem.Spec PyProof.Rows L2
/-! ### membership of a text, where something else may stand -/
instance {s : Str} {y : W} {xs : List Str} {O : Oh} {R : DK} [q : SeqS y O xs] : Go (dNiL (.d (.str s)) y O R) (R (.d (.bool (decide (s ∉ xs)))) O) := ⟨fun h => show dIn2 true (.d (.str s)) y O R from go_inS (by rw [if_pos rfl, ← decide_not]; exact h)⟩
instance {s : Str} {y : W} {xs : List Str} {O : Oh} {R : DK} [q : SeqS y O xs] : Go (dInL (.d (.str s)) y O R) (R (.d (.bool (decide (s ∈ xs)))) O) := ⟨fun h => show dIn2 false (.d (.str s)) y O R from go_inS h⟩
theorem go_niOS {s : Str} {xs : List Str} {O : Oh} {R : DK} (h : R (.d (.bool (decide (s ∉ xs)))) O) : dNiO (.d (.str s)) (.d (tS xs)) O R := by
  refine ⟨?_, ?_⟩
  · rw [List.all_eq_true]
    intro d hd
    obtain ⟨t, _, rfl⟩ := List.mem_map.mp hd
    rfl
  · have e : ((sD xs).any fun z => PyData.eqv z (.str s)) = decide (s ∈ xs) := any_sD xs s
    rw [e, ← decide_not]
    exact h
instance {s : Str} {xs : List Str} {O : Oh} {R : DK} : Go (dNiO (.d (.str s)) (.d (tS xs)) O R) (R (.d (.bool (decide (s ∉ xs)))) O) := ⟨go_niOS⟩
end Dl
namespace Dl
open PySem PySem.Spec PyProof.Rows L2
def w_kinds_of : DFn := dDef 3 1 (
  (dRet (dLc (dSeqI (dVar 0)) (.tup [(.nm 1), (.nm 2)]) dYes (dVar 1) [1, 2])))
def w_need_kind : DFn := dDef 2 2 (
  (dIf (dB (dOp dNiL (dVar 1) (dCall0 w_kinds_of (dCons (dVar 0) dNil))))
   (dRaise0 "NoKind")
   dNext))
def w__law_merged : DFn := dDef 7 1 (
  (dSeq (dAsg (dLc (dSeqI (dVar 0)) (.nm 4) dYes (dCB dListOf2 (dCons (dVar 4) dNil)) [4]) (.nm 1))
  (dSeq (dAsg (dLstC dNil) (.nm 2))
  (dSeq (dWhile (dB (dCB dAny (dCons (dLc (dSeqI (dVar 1)) (.nm 4) dYes (dOp dNe (dVar 4) (dLst dNil)) [4]) dNil)))
   (dSeq (dAsg (dLc (dSeqI (dVar 1)) (.nm 4) (dAnd (dB (dOp dNe (dVar 4) (dLst dNil))) (dNot (dB (dCB dAny (dCons (dLc (dSeqI (dVar 1)) (.nm 6) dYes (dOp (dIn2 false) (dOp dIx2 (dVar 4) (dC (.int 0))) (dSlice (dVar 6) (dO1 (dC (.int 1))) dO0)) [6]) dNil))))) (dOp dIx2 (dVar 4) (dC (.int 0))) [4]) (.nm 3))
   (dSeq (dIf (dB (dOp dEq (dVar 3) (dLst dNil)))
    (dRet (dC .none))
    dNext)
   (dSeq (dDrop (dBM isLstW dAppend (dVar 2) (dCons (dOp dIx2 (dVar 3) (dC (.int 0))) dNil)))
   (dAsg (dLc (dSeqI (dVar 1)) (.nm 4) dYes (dLc (dSeqI (dVar 4)) (.nm 5) (dB (dOp dNe (dVar 5) (dOp dIx2 (dVar 3) (dC (.int 0))))) (dVar 5) [5]) [4]) (.nm 1))))))
  (dRet (dVar 2))))))
def w__law_line : DFn := dDef 5 3 (
  (dSeq (dAsg (dCall0 w__law_merged (dCons (dOp dAdd (dLc (dSeqI (dVar 2)) (.nm 4) dYes (dOp dIx2 (dVar 0) (dVar 4)) [4]) (dLst (dCons (dCB dListOf2 (dCons (dVar 2) dNil)) dNil))) dNil)) (.nm 3))
  (dSeq (dIf (dB (dOp (dIs2 false) (dVar 3) (dC .none)))
   (dRet (dC .none))
   dNext)
  (dRet (dOp dAdd (dLst (dCons (dVar 1) dNil)) (dVar 3))))))
def w__law_parents : DFn := dDef 6 2 (
  (dSeq (dAsg (dCB dListC2 (dCons (dVar 1) dNil)) (.nm 2))
  (dSeq (dAsg (dLstC dNil) (.nm 3))
  (dSeq (dFor (dRng1 (dCons (dCB dMin (dCons (dCB dLen (dCons (dVar 2) dNil)) (dCons (dOp dIx2 (dLst (dCons (dC (.int 0)) (dCons (dC (.int 1)) (dCons (dC (.int 1)) (dCons (dC (.int 2)) (dCons (dC (.int 2)) (dCons (dC (.int 3)) (dCons (dC (.int 4)) dNil)))))))) (dCall0 w__law_digit (dCons (dVar 0) (dCons (dC (.int 7)) dNil)))) dNil))) dNil)) (.nm 4)
   (dSeq (dAsg (dOp dIx2 (dLst (dCons (dCall0 w__law_digit (dCons (dVar 0) (dCons (dCB dLen (dCons (dVar 2) dNil)) dNil))) (dCons (dOp dSub (dCB dLen (dCons (dVar 2) dNil)) (dC (.int 1))) dNil))) (dCall0 w__law_digit (dCons (dVar 0) (dCons (dC (.int 2)) dNil)))) (.nm 5))
   (dDrop (dBM isLstW dAppend (dVar 3) (dCons (dBM isLstW dPopAt (dVar 2) (dCons (dVar 5) dNil)) dNil)))))
  (dRet (dVar 3))))))
end Dl
namespace Dl
open PySem PySem.Spec PyProof.Rows L2
/-! ### the law's own merging -/
theorem sp_boolsAny {ds : List PyData} {bs : List Bool} {O : Oh} {R : DK} [b : BoolsD ds bs] (h : R (.d (.bool (bs.any id))) O) : dAny [.d (.list ds)] O R := by
  unfold dAny; dsimp only; rw [b.e]; exact h
instance {ds : List PyData} {bs : List Bool} {O : Oh} {R : DK} [b : BoolsD ds bs] : Go (dAny [.d (.list ds)] O R) (R (.d (.bool (bs.any id))) O) := ⟨sp_boolsAny⟩
def hd (r : List Str) : Str := r.headD ""
def lfreeP (rows : List (List Str)) (r : List Str) : Bool := decide (r ≠ []) && !(rows.any fun o => decide (hd r ∈ o.drop 1))
def lfree (rows : List (List Str)) : List Str := (rows.filter (lfreeP rows)).map hd
def lmerge : Nat → List (List Str) → List Str → Option (List Str)
  | 0, _, found => some found
  | n + 1, rows, found => if rows.any (fun r => decide (r ≠ [])) then (match lfree rows with
    | [] => none
    | a :: _ => lmerge n (rows.map fun r => r.filter fun s => decide (s ≠ a)) (found ++ [a])) else some found
def oL : Option (List Str) → PyData
  | none => .none
  | some xs => lS xs
def sizeR (rows : List (List Str)) : Nat := (rows.map List.length).sum
theorem filter_lt {xs : List Str} {a : Str} (h : a ∈ xs) : (xs.filter fun s => decide (s ≠ a)).length < xs.length := by
  induction xs with
  | nil => cases h
  | cons x r ih =>
    by_cases z : x = a
    · subst z
      rw [List.filter_cons_of_neg (by simp)]
      have := List.length_filter_le (fun s => decide (s ≠ x)) r
      rw [List.length_cons]; omega
    · rw [List.filter_cons_of_pos (by simpa using z)]
      have := ih ((List.mem_cons.mp h).resolve_left (Ne.symm z))
      rw [List.length_cons, List.length_cons]; omega
theorem size_le {a : Str} : ∀ rows : List (List Str), sizeR (rows.map fun r => r.filter fun s => decide (s ≠ a)) ≤ sizeR rows
  | [] => Nat.le_refl _
  | r :: q => by
    have := size_le (a := a) q
    have := List.length_filter_le (fun s => decide (s ≠ a)) r
    simp only [sizeR, List.map_cons, List.sum_cons] at *
    omega
theorem size_lt {a : Str} : ∀ {rows : List (List Str)}, (∃ r ∈ rows, a ∈ r) → sizeR (rows.map fun r => r.filter fun s => decide (s ≠ a)) < sizeR rows
  | r :: q, ⟨r', hr, ha⟩ => by
    have h2 := size_le (a := a) q
    have h3 := List.length_filter_le (fun s => decide (s ≠ a)) r
    rcases List.mem_cons.mp hr with rfl | hr
    · have := filter_lt ha
      simp only [sizeR, List.map_cons, List.sum_cons] at *
      omega
    · have := size_lt ⟨r', hr, ha⟩
      simp only [sizeR, List.map_cons, List.sum_cons] at *
      omega
theorem lfree_mem {rows : List (List Str)} {a : Str} (h : a ∈ lfree rows) : ∃ r ∈ rows, a ∈ r := by
  obtain ⟨r, hr, rfl⟩ := List.mem_map.mp h
  obtain ⟨h1, h2⟩ := List.mem_filter.mp hr
  unfold lfreeP at h2
  rw [Bool.and_eq_true] at h2
  have hne := of_decide_eq_true h2.1
  cases r with
  | nil => exact absurd rfl hne
  | cons x t => exact ⟨_, h1, List.mem_cons_self⟩
theorem sp_lmerged {rows : List (List Str)} (hz : rows.length ≤ 20) (hl : sizeR rows ≤ 500) {O : Oh} {R : DK} {xe : Exn → Oh → Prop} (h : R (.d (oL (lmerge (sizeR rows + 1) rows []))) O) : w__law_merged [.d (.list (rows.map lS))] O R xe := by
  have hrow : ∀ (rs : List (List Str)), ∀ r ∈ rs, r.length ≤ sizeR rs := by
    intro rs
    induction rs with
    | nil => intro r hr; cases hr
    | cons x q ih =>
      intro r hr
      rcases List.mem_cons.mp hr with rfl | hr
      · simp only [sizeR, List.map_cons, List.sum_cons]; omega
      · have := ih r hr
        simp only [sizeR, List.map_cons, List.sum_cons] at *; omega
  generalize hF : lmerge (sizeR rows + 1) rows [] = F at h
  refine def_start rfl fun n l cl => ?_
  repeat refine Go.h ?_
  refine lc_all lS lS trivial (by omega) (fun r _ C hC => ?_) ?_
  · repeat refine Go.h ?_
    exact hC
  repeat refine Go.h ?_
  refine while_go (fun m Γ S => ∃ rs found x3, Γ = [some (.d (.list (rows.map lS))), some (.d (.list (rs.map lS))), some (.c (n + 0)), x3, none, none, none] ∧ S = O ++ [cS found] ∧
      lmerge m rs found = F ∧ sizeR rs < m ∧ sizeR rs + found.length ≤ 500 ∧ rs.length ≤ 20)
    (n := sizeR rows + 1) ⟨rows, [], none, rfl, rfl, hF, Nat.lt_succ_self _, by simpa using hl, hz⟩ ?_
  rintro m Γ S ⟨rs, found, x3, rfl, rfl, e, hm, hs, hr⟩ C hC
  obtain ⟨m, rfl⟩ : ∃ k, m = k + 1 := ⟨m - 1, by omega⟩
  unfold lmerge at e
  repeat refine Go.h ?_
  refine lc_all lS (fun r => .bool (decide (r ≠ []))) trivial (by omega) (fun r _ C hC => ?_) ?_
  · repeat refine Go.h ?_
    exact hC
  repeat refine Go.h ?_
  have e1 : (rs.map fun r => decide (r ≠ [])).any id = rs.any fun r => decide (r ≠ []) := by rw [List.any_map]; rfl
  rw [e1]
  refine bcase _ (fun z => ?_) (fun z => ?_)
  · rw [if_pos z] at e
    repeat refine Go.h ?_
    refine lc_mapD lS (lfreeP rs) (fun r => .str (hd r)) trivial (by omega) (fun r hr C2 hC2 => ?_) (fun r hr hp C2 hC2 => ?_) ?_
    · repeat refine Go.h ?_
      unfold lfreeP at hC2
      refine dcase (fun z1 => ?_) (fun z1 => ?_)
      · rw [decide_eq_true z1, Bool.true_and] at hC2
        obtain ⟨x, t, rfl⟩ : ∃ x t, r = x :: t := by cases r with | nil => exact absurd rfl z1 | cons x t => exact ⟨x, t, rfl⟩
        repeat refine Go.h ?_
        refine lc_all lS (fun o => .bool (decide (x ∈ o.drop 1))) trivial (by omega) (fun o _ C3 hC3 => ?_) ?_
        · repeat refine Go.h ?_
          rw [cut_drop', ← List.map_drop]
          repeat refine Go.h ?_
          exact hC3
        repeat refine Go.h ?_
        have e2 : (rs.map fun o => decide (x ∈ o.drop 1)).any id = rs.any fun o => decide (x ∈ o.drop 1) := by rw [List.any_map]; rfl
        rw [e2]
        refine bcase _ (fun z2 => ?_) (fun z2 => ?_)
        · have z2' : (rs.any fun o => decide (hd (x :: t) ∈ o.drop 1)) = true := z2
          rw [z2'] at hC2
          repeat refine Go.h ?_
          exact hC2
        · have z2' : (rs.any fun o => decide (hd (x :: t) ∈ o.drop 1)) = false := z2
          rw [z2'] at hC2
          repeat refine Go.h ?_
          exact hC2
      · rw [decide_eq_false z1, Bool.false_and] at hC2
        repeat refine Go.h ?_
        exact hC2
    · unfold lfreeP at hp
      rw [Bool.and_eq_true] at hp
      have hne := of_decide_eq_true hp.1
      obtain ⟨x, t, rfl⟩ : ∃ x t, r = x :: t := by cases r with | nil => exact absurd rfl hne | cons x t => exact ⟨x, t, rfl⟩
      repeat refine Go.h ?_
      exact hC2
    have e2 : ((rs.filter (lfreeP rs)).map fun r => PyData.str (hd r)) = sD (lfree rs) := by unfold sD lfree; rw [List.map_map]; rfl
    rw [e2]
    repeat refine Go.h ?_
    cases hf : lfree rs with
    | nil =>
      rw [hf] at e
      rw [decide_eq_true rfl]
      repeat refine Go.h ?_
      rw [← e] at h
      exact h
    | cons a t =>
      rw [hf] at e
      have hmem := lfree_mem (rows := rs) (a := a) (by rw [hf]; exact List.mem_cons_self)
      have hlt := size_lt hmem
      rw [decide_eq_false (by simp)]
      repeat refine Go.h ?_
      refine go_append (by simp; omega) (str_snoc _ _) ?_
      repeat refine Go.h ?_
      refine lc_all lS (fun r => lS (r.filter fun s => decide (s ≠ a))) trivial (by omega) (fun r hr C2 hC2 => ?_) ?_
      · repeat refine Go.h ?_
        have := hrow rs r hr
        refine lc_mapD PyData.str (fun s => decide (s ≠ a)) PyData.str trivial (by omega) (fun s _ C3 hC3 => ?_) (fun s _ _ C3 hC3 => ?_) ?_
        · repeat refine Go.h ?_
          exact hC3
        · repeat refine Go.h ?_
          exact hC3
        exact hC2
      repeat refine Go.h ?_
      have e3 : (rs.map fun r => lS (r.filter fun s => decide (s ≠ a))) = (rs.map fun r => r.filter fun s => decide (s ≠ a)).map lS := by rw [List.map_map]; rfl
      rw [e3]
      exact hC m _ _ rfl ⟨_, found ++ [a], _, rfl, rfl, e, by omega, by rw [List.length_append, List.length_singleton]; omega, by rw [List.length_map]; exact hr⟩
  · rw [if_neg (by rw [z]; exact Bool.false_ne_true)] at e
    repeat refine Go.h ?_
    rw [← e] at h
    exact h
end Dl
namespace Dl
open PySem PySem.Spec PyProof.Rows L2
/-! ### the law merges as the program does -/
def cutR (left : List Str) (rs : List (List Str)) : List (List Str) := rs.map fun r => r.filter fun s => decide (s ∈ left)
def FreeP (rs : List (List Str)) (left : List Str) (a : Str) : Prop := ∀ r ∈ rs, a ∉ (r.filter fun s => decide (s ∈ left)).drop 1
theorem head_of {xs : List Str} {a : Str} (h : a ∈ xs) (h2 : a ∉ xs.drop 1) : ∃ t, xs = a :: t := by
  cases xs with
  | nil => cases h
  | cons x t =>
    rcases List.mem_cons.mp h with rfl | h
    · exact ⟨t, rfl⟩
    · exact absurd h h2
theorem free_iff {rs : List (List Str)} {left : List Str} {a : Str} (hr : ∀ r ∈ rs, r.Nodup) (nd : left.Nodup) (ha : a ∈ left) : wishOf rs left a = none ↔ FreeP rs left a := by
  constructor
  · intro h r hrr hm
    by_cases har : a ∈ r
    · rw [filter_split (hr r hrr) nd har ha (wishFrom_none h r hrr har)] at hm
      have hm : a ∈ r.filter fun s => decide (s ∈ left.erase a) := hm
      have := of_decide_eq_true (List.mem_filter.mp hm).2
      rw [List.Nodup.mem_erase_iff nd] at this
      exact this.1 rfl
    · exact har (List.mem_filter.mp (List.mem_of_mem_drop hm)).1
  · intro h
    refine wishFrom_free fun r hrr har => ?_
    obtain ⟨t, e⟩ := head_of (List.mem_filter.mpr ⟨har, decide_eq_true ha⟩) (h r hrr)
    exact ahead_head e
theorem lfreeP_iff {rs : List (List Str)} {left : List Str} {r : List Str} : lfreeP (cutR left rs) r = true ↔ r ≠ [] ∧ FreeP rs left (hd r) := by
  unfold lfreeP cutR FreeP
  rw [Bool.and_eq_true, decide_eq_true_iff, Bool.not_eq_true', ← Bool.not_eq_true, List.any_eq_true]
  constructor
  · rintro ⟨h1, h2⟩
    refine ⟨h1, fun q hq hm => h2 ⟨_, List.mem_map.mpr ⟨q, hq, rfl⟩, decide_eq_true hm⟩⟩
  · rintro ⟨h1, h2⟩
    refine ⟨h1, ?_⟩
    rintro ⟨o, ho, hm⟩
    obtain ⟨q, hq, rfl⟩ := List.mem_map.mp ho
    exact h2 q hq (of_decide_eq_true hm)
theorem mem_lfree {rs : List (List Str)} {left : List Str} {a : Str} (hr : ∀ r ∈ rs, r.Nodup) (nd : left.Nodup) (ho : ∀ s ∈ left, ∃ r ∈ rs, s ∈ r) : a ∈ lfree (cutR left rs) ↔ a ∈ freeOf rs left := by
  constructor
  · intro h
    obtain ⟨r, hm, rfl⟩ := List.mem_map.mp h
    obtain ⟨h1, h2⟩ := List.mem_filter.mp hm
    obtain ⟨h3, h4⟩ := lfreeP_iff.mp h2
    obtain ⟨q, hq, rfl⟩ := List.mem_map.mp h1
    have hin : hd (q.filter fun s => decide (s ∈ left)) ∈ q.filter fun s => decide (s ∈ left) := by
      cases hh : q.filter fun s => decide (s ∈ left) with
      | nil => exact absurd hh h3
      | cons x t => exact List.mem_cons_self
    have hl := of_decide_eq_true (List.mem_filter.mp hin).2
    exact List.mem_filter.mpr ⟨hl, by rw [(free_iff hr nd hl).mpr h4]; rfl⟩
  · intro h
    obtain ⟨hl, hw⟩ := List.mem_filter.mp h
    have hw : wishOf rs left a = none := by simpa using hw
    have hf := (free_iff hr nd hl).mp hw
    obtain ⟨r, hrr, har⟩ := ho a hl
    obtain ⟨t, e⟩ := head_of (List.mem_filter.mpr ⟨har, decide_eq_true hl⟩) (hf r hrr)
    refine List.mem_map.mpr ⟨r.filter fun s => decide (s ∈ left), List.mem_filter.mpr ⟨List.mem_map.mpr ⟨r, hrr, rfl⟩, lfreeP_iff.mpr ⟨by rw [e]; simp, ?_⟩⟩, by rw [e]; rfl⟩
    rw [e]
    exact hf
/-- the first of both is the same -/
theorem first_same {rs : List (List Str)} {left : List Str} {a c : Str} {t u : List Str} (hr : ∀ r ∈ rs, r.Nodup) (nd : left.Nodup) (ho : ∀ s ∈ left, ∃ r ∈ rs, s ∈ r) (hp : left.Pairwise fun a b => rank rs a ≤ rank rs b)
    (h1 : lfree (cutR left rs) = a :: t) (h2 : freeOf rs left = c :: u) : a = c := by
  have ha : a ∈ freeOf rs left := (mem_lfree hr nd ho).mp (by rw [h1]; exact List.mem_cons_self)
  have hc : c ∈ freeOf rs left := by rw [h2]; exact List.mem_cons_self
  obtain ⟨hal, haw⟩ := List.mem_filter.mp ha
  obtain ⟨hcl, hcw⟩ := List.mem_filter.mp hc
  have haf := (free_iff hr nd hal).mp (by simpa using haw)
  have hcf := (free_iff hr nd hcl).mp (by simpa using hcw)
  -- c's rank is the least
  have le1 : rank rs c ≤ rank rs a := by
    have hs : (freeOf rs left).Pairwise fun a b => rank rs a ≤ rank rs b := hp.sublist List.filter_sublist
    rw [h2] at hs ha
    rcases List.mem_cons.mp ha with rfl | ha
    · exact Nat.le_refl _
    · exact (List.pairwise_cons.mp hs).1 a ha
  -- a's row is the first one
  have le2 : rank rs a ≤ rank rs c := by
    obtain ⟨k1, k2⟩ := rank_row (ho c hcl)
    unfold lfree at h1
    cases hq : (cutR left rs).filter (lfreeP (cutR left rs)) with
    | nil => rw [hq] at h1; cases h1
    | cons r0 rest =>
      rw [hq] at h1
      injection h1 with e1 _
      obtain ⟨l1, l2, e2, e3, e4, _⟩ := List.filter_eq_cons_iff.mp hq
      apply Nat.le_of_not_lt
      intro hlt
      have hlen : l1.length < (cutR left rs).length := by rw [e2]; simp
      have hr0 : (cutR left rs)[l1.length]? = some r0 := by rw [e2, List.getElem?_append_right (Nat.le_refl _), Nat.sub_self]; rfl
      -- the row at c's rank
      obtain ⟨tc, ec⟩ := head_of (List.mem_filter.mpr ⟨k2, decide_eq_true hcl⟩) (hcf _ (List.getElem_mem k1))
      have hrc : (cutR left rs)[rank rs c]? = some (c :: tc) := by
        unfold cutR
        rw [List.getElem?_map, List.getElem?_eq_getElem k1]
        simp only [Option.map_some, ec]
      have hge : l1.length ≤ rank rs c := by
        apply Nat.le_of_not_lt
        intro hlt2
        have : (c :: tc) ∈ l1 := by
          rw [e2, List.getElem?_append_left hlt2] at hrc
          exact List.mem_of_getElem? hrc
        exact e3 _ this (lfreeP_iff.mpr ⟨by simp, hcf⟩)
      -- a stands in the row of l1.length
      have hra : rank rs a ≤ l1.length := by
        have hl1 : l1.length < rs.length := by unfold cutR at hlen; rwa [List.length_map] at hlen
        have e5 : (rs[l1.length]).filter (fun s => decide (s ∈ left)) = r0 := by
          unfold cutR at hr0
          rw [List.getElem?_map, List.getElem?_eq_getElem hl1] at hr0
          simpa using hr0
        have h3 := (lfreeP_iff.mp e4).1
        have hain : a ∈ rs[l1.length] := by
          have : a ∈ r0 := by
            rw [← e1]
            cases r0 with
            | nil => exact absurd rfl h3
            | cons x y => exact List.mem_cons_self
          rw [← e5] at this
          exact (List.mem_filter.mp this).1
        unfold rank
        apply Nat.le_of_not_lt
        intro hlt3
        have := List.not_of_lt_findIdx hlt3
        rw [decide_eq_true hain] at this
        cases this
      omega
  have e : rank rs a = rank rs c := Nat.le_antisymm le2 le1
  obtain ⟨k1, k2⟩ := rank_row (ho a hal)
  obtain ⟨j1, j2⟩ := rank_row (ho c hcl)
  have j2 : c ∈ rs[rank rs a] := by simpa only [e] using j2
  obtain ⟨ta, ea⟩ := head_of (List.mem_filter.mpr ⟨k2, decide_eq_true hal⟩) (haf _ (List.getElem_mem k1))
  obtain ⟨tc, ec⟩ := head_of (List.mem_filter.mpr ⟨j2, decide_eq_true hcl⟩) (hcf _ (List.getElem_mem k1))
  rw [ea] at ec
  injection ec
theorem cut_erase {rs : List (List Str)} {left : List Str} {a : Str} (nd : left.Nodup) : (cutR left rs).map (fun r => r.filter fun s => decide (s ≠ a)) = cutR (left.erase a) rs := by
  unfold cutR
  rw [List.map_map]
  apply List.map_congr_left
  intro r _
  simp only [Function.comp]
  rw [List.filter_filter]
  apply List.filter_congr
  intro s _
  by_cases z : s = a
  · subst z
    simp [List.Nodup.mem_erase_iff nd]
  · simp [List.mem_erase_of_ne z, z]
theorem lmerge_ok {rs : List (List Str)} (hr : ∀ r ∈ rs, r.Nodup) : ∀ (m n : Nat) (left found : List Str), left.length < m → left.length < n → left.Nodup → (left.Pairwise fun a b => rank rs a ≤ rank rs b) → (∀ s ∈ left, ∃ r ∈ rs, s ∈ r) →
    lmerge n (cutR left rs) found = (match mergeGo rs m left found with
      | .ok order => some order
      | .error _ => none)
  | 0, n, left, found, hm, _, _, _, _ => by omega
  | m + 1, 0, left, found, _, hn, _, _, _ => by omega
  | m + 1, n + 1, left, found, hm, hn, nd, hp, ho => by
    unfold lmerge mergeGo
    by_cases z : left = []
    · subst z
      rw [if_pos rfl, if_neg]
      rw [List.any_eq_true]
      rintro ⟨r, hr', hne⟩
      unfold cutR at hr'
      obtain ⟨q, _, rfl⟩ := List.mem_map.mp hr'
      exact (of_decide_eq_true hne) (List.filter_eq_nil_iff.mpr fun s _ h => by cases of_decide_eq_true h)
    · rw [if_neg z, if_pos]
      · cases hf : freeOf rs left with
        | nil =>
          have : lfree (cutR left rs) = [] := by
            apply List.eq_nil_iff_forall_not_mem.mpr
            intro a ha
            have := (mem_lfree hr nd ho).mp ha
            rw [hf] at this
            cases this
          rw [this]
        | cons c u =>
          have hc : c ∈ freeOf rs left := by rw [hf]; exact List.mem_cons_self
          have hcl := (List.mem_filter.mp hc).1
          cases hl : lfree (cutR left rs) with
          | nil =>
            have := (mem_lfree hr nd ho).mpr hc
            rw [hl] at this
            cases this
          | cons a t =>
            have e := first_same hr nd ho hp hl hf
            subst e
            have hle := List.length_erase_of_mem hcl
            have hpos := List.length_pos_of_mem hcl
            dsimp only
            rw [cut_erase nd]
            exact lmerge_ok hr m n (left.erase a) (found ++ [a]) (by omega) (by omega) (nd.sublist List.erase_sublist) (hp.sublist List.erase_sublist) fun s hs => ho s (List.mem_of_mem_erase hs)
      · rw [List.any_eq_true]
        obtain ⟨s, hs⟩ := List.exists_mem_of_ne_nil _ z
        obtain ⟨r, hrr, hsr⟩ := ho s hs
        refine ⟨r.filter fun s => decide (s ∈ left), List.mem_map.mpr ⟨r, hrr, rfl⟩, decide_eq_true fun e => ?_⟩
        have : s ∈ r.filter fun s => decide (s ∈ left) := List.mem_filter.mpr ⟨hsr, decide_eq_true hs⟩
        rw [e] at this
        cases this
theorem cut_names {rs : List (List Str)} : cutR (namesOf rs) rs = rs := by
  unfold cutR
  conv => rhs; rw [← List.map_id rs]
  apply List.map_congr_left
  intro r hr
  exact List.filter_eq_self.mpr fun s hs => decide_eq_true (namesOf_mem hr hs)
/-- the law's merging tells what the program's tells -/
theorem lmerge_same {rs : List (List Str)} (hr : ∀ r ∈ rs, r.Nodup) {n : Nat} (hn : (namesOf rs).length < n) : lmerge n rs [] = (match mergedOf rs with
      | .ok order => some order
      | .error _ => none) := by
  have hmem : ∀ s ∈ namesOf rs, ∃ r ∈ rs, s ∈ r := fun s hs => by
    obtain ⟨r, hr, hs⟩ := List.mem_flatten.mp (met_strs hs)
    exact ⟨r, hr, hs⟩
  have := lmerge_ok hr ((namesOf rs).length + 1) n (namesOf rs) [] (Nat.lt_succ_self _) hn (met_nodup _) (names_sorted rs) hmem
  rw [cut_names] at this
  exact this
end Dl
namespace Dl
open PySem PySem.Spec PyProof.Rows L2
/-! ### lines -/
theorem go_addD {O : Oh} {R : DK} {xs ys : List PyData} (hz : xs.length + ys.length ≤ 1000000) (h : R (.d (.list (xs ++ ys))) O) : dAdd (.d (.list xs)) (.d (.list ys)) O R := ⟨hz, h⟩
/-- the rows of a kind -/
def rowsOf (L : Str → List Str) (own : List Str) : List (List Str) := own.map L ++ [own]
def okO : Except (List Wish) (List Str) → Option (List Str)
  | .ok xs => some xs
  | .error _ => none
theorem GoodR.size {rs : List (List Str)} (g : GoodR rs) : sizeR rs ≤ 48 := by
  have := g.flat
  rw [List.length_flatten] at this
  exact this
theorem GoodR.names {rs : List (List Str)} (g : GoodR rs) : (namesOf rs).length ≤ sizeR rs := by
  have : (namesOf rs).length ≤ rs.flatten.length := met_len _
  rw [List.length_flatten] at this
  exact this
/-- a line, or None -/
def lineO (k : Str) (o : Option (List Str)) : PyData := match o with
  | some m => lS (k :: m)
  | none => .none
theorem sp_law_line {x : W} {L : Str → List Str} {σ : List Str} {k : Str} {own : List Str} (g : GoodR (rowsOf L own)) (hs : ∀ s ∈ own, s ∈ σ) {O : Oh} {R : DK} {xe : Exn → Oh → Prop} [kv : KvM x O (fun s => .d (lS (L s))) σ] (hx : ∀ M, KvM x (O ++ M) (fun s => .d (lS (L s))) σ)
    (h : R (.d (lineO k (okO (mergedOf (rowsOf L own))))) O) : w__law_line [x, .d (.str k), .d (lS own)] O R xe := by
  have hol : own.length ≤ 8 := (g.row own (by unfold rowsOf; simp)).2.1
  refine def_start rfl fun n l cl => ?_
  repeat refine Go.h ?_
  refine lc_all PyData.str (fun s => lS (L s)) trivial (by omega) (fun s hm C hC => ?_) ?_
  · haveI := hx []
    repeat refine Go.h ?_
    refine go_ixK (f := fun s => .d (lS (L s))) (σ := σ) (hs s hm) ?_
    exact hC
  repeat refine Go.h ?_
  refine go_addD (by simp; omega) ?_
  repeat refine Go.h ?_
  have e1 : (own.map fun s => lS (L s)) ++ [PyData.list (sD own)] = (rowsOf L own).map lS := by unfold rowsOf; rw [List.map_append, List.map_map]; rfl
  rw [e1]
  have hsz := g.size
  have hnm := g.names
  refine sp_lmerged (Nat.le_trans g.few (by decide)) (by omega) ?_
  rw [lmerge_same (fun r hr => (g.row r hr).1) (by omega)]
  cases hm : mergedOf (rowsOf L own) with
  | error ring =>
    rw [hm] at h
    dsimp only [oL]
    repeat refine Go.h ?_
    rw [show (if false = true then !isNone (W.d PyData.none) else isNone (W.d PyData.none)) = true from rfl]
    repeat refine Go.h ?_
    exact h
  | ok m =>
    rw [hm] at h
    dsimp only [oL]
    repeat refine Go.h ?_
    rw [show (if false = true then !isNone (W.d (lS m)) else isNone (W.d (lS m))) = false from rfl]
    repeat refine Go.h ?_
    have hml : m.length ≤ 48 := by
      have mo := merged_ok (rs := rowsOf L own) fun r hr => (g.row r hr).1
      rw [hm] at mo
      have e := mo.perm.length_eq
      omega
    refine go_addL (xs := [k]) (by simp; omega) ?_
    repeat refine Go.h ?_
    exact h
end Dl
namespace Dl
open PySem PySem.Spec PyProof.Rows L2
theorem min_nat (a b : Nat) : (if (b : Int) < (a : Int) then (b : Int) else (a : Int)) = ((min a b : Nat) : Int) := by
  split <;> omega
/-! ### parents are drawn -/
theorem parents_draw {p : Nat} {made : List Str} (hz : made.length ≤ 100) : Draws p w__law_parents [.c p, .d (lS made)] fun v => ∃ own rest : List Str, v = lS own ∧ (own ++ rest).Perm made ∧ own.length ≤ 4 := by
  intro O R xe hp h
  refine def_start rfl fun n l cl => ?_
  repeat refine Go.h ?_
  refine digit_at (by decide) (by decide) (Pt.start hp l cl) fun d O1 hd pt => ?_
  haveI := pt.l
  haveI := pt.c
  repeat refine Go.h ?_
  have hi : ∃ m : Nat, atI (([PyData.int 0, .int 1, .int 1, .int 2, .int 2, .int 3, .int 4] : List PyData).map W.d) (d : Nat) = some (.d (.int m)) ∧ m ≤ 4 := by
    have : d = 0 ∨ d = 1 ∨ d = 2 ∨ d = 3 ∨ d = 4 ∨ d = 5 ∨ d = 6 := by omega
    rcases this with rfl | rfl | rfl | rfl | rfl | rfl | rfl
    · exact ⟨0, rfl, by decide⟩
    · exact ⟨1, rfl, by decide⟩
    · exact ⟨1, rfl, by decide⟩
    · exact ⟨2, rfl, by decide⟩
    · exact ⟨2, rfl, by decide⟩
    · exact ⟨3, rfl, by decide⟩
    · exact ⟨4, rfl, by decide⟩
  obtain ⟨w, hw, hw4⟩ := hi
  refine go_ix hw ?_
  repeat refine Go.h ?_
  rw [min_nat]
  refine go_rng (by simp; omega) ?_
  repeat refine Go.h ?_
  refine for_rng (fun k Γ S => ∃ O1 left own x4 x5, Γ = [some (.c p), some (.d (lS made)), some (.c (n + 0)), some (.c (n + 1)), x4, x5] ∧ S = O1 ++ [cS left, cS own] ∧ Pt p n O O1 ∧ (own ++ left).Perm made ∧ own.length = k)
    ⟨O1, made, [], _, _, rfl, rfl, pt, by simp, rfl⟩ ?_ ?_
  · rintro Γ S ⟨O1, left, own, x4, x5, rfl, rfl, pt, hpm, hl⟩
    haveI := pt.l
    haveI := pt.c
    repeat refine Go.h ?_
    exact h _ _ ⟨own, left, rfl, hpm, by omega⟩ pt.chg
  · rintro k Γ S hk ⟨O1, left, own, x4, x5, rfl, rfl, pt, hpm, hl⟩ C hC
    haveI := pt.l
    haveI := pt.c
    have hle := hpm.length_eq
    rw [List.length_append] at hle
    simp at hk
    have hpos : 0 < left.length := by omega
    repeat refine Go.h ?_
    refine digit_at (by simp; omega) (by simp; omega) pt fun d1 O2 hd1 pt => ?_
    haveI := pt.l
    haveI := pt.c
    simp at hd1
    repeat refine Go.h ?_
    refine digit_at (by decide) (by decide) pt fun d2 O3 hd2 pt => ?_
    haveI := pt.l
    haveI := pt.c
    repeat refine Go.h ?_
    have hi : ∃ m : Nat, atI (([PyData.int (d1 : Nat), .int (((List.map W.d (sD left)).length : Nat) - 1)] : List PyData).map W.d) (d2 : Nat) = some (.d (.int m)) ∧ m < left.length := by
      have : d2 = 0 ∨ d2 = 1 := by omega
      rcases this with rfl | rfl
      · exact ⟨d1, rfl, hd1⟩
      · refine ⟨left.length - 1, ?_, by omega⟩
        have e : (((List.map W.d (sD left)).length : Nat) : Int) - 1 = ((left.length - 1 : Nat) : Int) := by simp; omega
        rw [e]
        exact atI_map (m := 1) rfl
    obtain ⟨m, hm, hml⟩ := hi
    refine go_ix hm ?_
    repeat refine Go.h ?_
    refine go_popAt (m := m) (y := .d (.str left[m])) (ws' := (sD (left.eraseIdx m)).map W.d) (by simp; omega) (ixN_nat (by simpa using hml)) ?_ ?_ ?_
    · simp [hml]
    · rw [← map_erase, ← map_erase]
    repeat refine Go.h ?_
    refine go_append (by simp; omega) (str_snoc _ _) ?_
    repeat refine Go.h ?_
    refine hC _ _ ⟨O3, left.eraseIdx m, own ++ [left[m]], _, _, rfl, rfl, pt, ?_, by simp [hl]⟩
    refine List.Perm.trans ?_ hpm
    rw [List.append_assoc]
    refine List.Perm.append_left _ ?_
    have e1 : left = left.take m ++ left[m] :: left.drop (m + 1) := by
      conv => lhs; rw [← List.take_append_drop m left, List.drop_eq_getElem_cons hml]
    have e2 : left.eraseIdx m = left.take m ++ left.drop (m + 1) := List.eraseIdx_eq_take_drop_succ left m
    rw [e2]
    conv => rhs; rw [e1]
    show (left[m] :: (left.take m ++ left.drop (m + 1))).Perm _
    exact List.perm_middle.symm
end Dl
namespace Dl
open PySem PySem.Spec PyProof.Rows L2
/-! ### families -/
structure Kd where
  nm : Str
  own : List Str
  line : List Str
abbrev nms (fam : List Kd) : List Str := fam.map Kd.nm
def kdOf (fam : List Kd) (s : Str) : Option Kd := fam.find? fun k => k.nm == s
def LnF (fam : List Kd) (s : Str) : List Str := match kdOf fam s with
  | some k => k.line
  | none => []
def OwF (fam : List Kd) (s : Str) : List Str := match kdOf fam s with
  | some k => k.own
  | none => []
inductive FamOk : List Kd → Prop
  | nil : FamOk []
  | snoc {fam : List Kd} {k : Kd} {m : List Str} : FamOk fam → k.nm ∉ nms fam → k.own.Nodup → k.own.length ≤ 4 → (∀ s ∈ k.own, s ∈ nms fam) → mergedOf (rowsOf (LnF fam) k.own) = .ok m → k.line = k.nm :: m → FamOk (fam ++ [k])
theorem kd_old {fam : List Kd} {k : Kd} {s : Str} (hs : s ∈ nms fam) : kdOf (fam ++ [k]) s = kdOf fam s := by
  unfold kdOf
  rw [List.find?_append]
  obtain ⟨q, hq, rfl⟩ := List.mem_map.mp hs
  cases h : fam.find? fun k => k.nm == q.nm with
  | some x => rfl
  | none =>
    rw [List.find?_eq_none] at h
    exact absurd (by simp) (h q hq)
theorem kd_new {fam : List Kd} {k : Kd} (hs : k.nm ∉ nms fam) : kdOf (fam ++ [k]) k.nm = some k := by
  unfold kdOf
  rw [List.find?_append]
  have : fam.find? (fun q => q.nm == k.nm) = none := by
    rw [List.find?_eq_none]
    intro q hq e
    exact hs (by rw [← eq_of_beq e]; exact List.mem_map.mpr ⟨q, hq, rfl⟩)
  rw [this]
  simp
theorem Ln_old {fam : List Kd} {k : Kd} {s : Str} (hs : s ∈ nms fam) : LnF (fam ++ [k]) s = LnF fam s := by unfold LnF; rw [kd_old hs]
theorem Ow_old {fam : List Kd} {k : Kd} {s : Str} (hs : s ∈ nms fam) : OwF (fam ++ [k]) s = OwF fam s := by unfold OwF; rw [kd_old hs]
theorem Ln_new {fam : List Kd} {k : Kd} (hs : k.nm ∉ nms fam) : LnF (fam ++ [k]) k.nm = k.line := by unfold LnF; rw [kd_new hs]
theorem Ow_new {fam : List Kd} {k : Kd} (hs : k.nm ∉ nms fam) : OwF (fam ++ [k]) k.nm = k.own := by unfold OwF; rw [kd_new hs]
theorem FamOk.nd {fam : List Kd} (h : FamOk fam) : (nms fam).Nodup := by
  induction h with
  | nil => exact List.nodup_nil
  | snoc h0 h1 _ _ _ _ _ ih =>
    unfold nms at *
    rw [List.map_append, List.nodup_append]
    refine ⟨ih, by simp, fun a ha b hb => ?_⟩
    simp at hb
    subst hb
    intro e
    subst e
    exact h1 ha
/-- a line: unlike names of the family -/
theorem FamOk.line {fam : List Kd} (h : FamOk fam) : ∀ s ∈ nms fam, (LnF fam s).Nodup ∧ ∀ t ∈ LnF fam s, t ∈ nms fam := by
  induction h with
  | nil => intro s hs; cases hs
  | @snoc fam k m h0 h1 h2 h3 h4 h5 h6 ih =>
    intro s hs
    have hs : s ∈ nms fam ∨ s = k.nm := by
      unfold nms at hs ⊢
      rw [List.map_append] at hs
      rcases List.mem_append.mp hs with h | h
      · exact .inl h
      · exact .inr (by simpa using h)
    have up : ∀ t, t ∈ nms fam → t ∈ nms (fam ++ [k]) := fun t ht => by unfold nms at *; rw [List.map_append]; exact List.mem_append_left _ ht
    rcases hs with hs | rfl
    · rw [Ln_old hs]
      exact ⟨(ih s hs).1, fun t ht => up t ((ih s hs).2 t ht)⟩
    · rw [Ln_new h1, h6]
      have hr : ∀ r ∈ rowsOf (LnF fam) k.own, r.Nodup ∧ ∀ t ∈ r, t ∈ nms fam := by
        intro r hr
        unfold rowsOf at hr
        rcases List.mem_append.mp hr with hr | hr
        · obtain ⟨q, hq, rfl⟩ := List.mem_map.mp hr
          exact ih q (h4 q hq)
        · rw [List.mem_singleton.mp hr]; exact ⟨h2, h4⟩
      have mo := merged_ok (rs := rowsOf (LnF fam) k.own) fun r hrr => (hr r hrr).1
      rw [h5] at mo
      have hm : ∀ t ∈ m, t ∈ nms fam := fun t ht => by
        obtain ⟨r, hrr, htr⟩ := List.mem_flatten.mp (met_strs (mo.perm.mem_iff.mp ht))
        exact (hr r hrr).2 t htr
      refine ⟨List.nodup_cons.mpr ⟨fun z => h1 (hm _ z), mo.nd⟩, fun t ht => ?_⟩
      rcases List.mem_cons.mp ht with rfl | ht
      · unfold nms; rw [List.map_append]; simp
      · exact up t (hm t ht)
/-- the rows of parents among these -/
theorem FamOk.good {fam : List Kd} (h : FamOk fam) (hz : fam.length ≤ 8) (ok : ∀ s ∈ nms fam, OkS s) {own : List Str} (h2 : own.Nodup) (h3 : own.length ≤ 4) (h4 : ∀ s ∈ own, s ∈ nms fam) : GoodR (rowsOf (LnF fam) own) := by
  refine ⟨by unfold rowsOf; simp; omega, fun r hr => ?_⟩
  have key : r.Nodup ∧ ∀ t ∈ r, t ∈ nms fam := by
    unfold rowsOf at hr
    rcases List.mem_append.mp hr with hr | hr
    · obtain ⟨q, hq, rfl⟩ := List.mem_map.mp hr
      exact h.line q (h4 q hq)
    · rw [List.mem_singleton.mp hr]; exact ⟨h2, h4⟩
  refine ⟨key.1, ?_, fun s hs => ok s (key.2 s hs)⟩
  have := nodup_sub_len key.1 key.2
  unfold nms at this
  rw [List.length_map] at this
  omega
end Dl
namespace Dl
open PySem PySem.Spec PyProof.Rows L2
theorem cut_m1 {α : Type} (xs : List α) : cutL xs none (some (-1)) = xs.dropLast := by
  unfold cutL
  rw [HT.sIx_none, List.drop_zero, Nat.sub_zero, List.dropLast_eq_take]
  congr 1
  show (if (-1 : Int) < 0 then ((-1 : Int) + (xs.length : Int)).toNat else min (-1 : Int).toNat xs.length) = _
  rw [if_pos (by decide)]
  omega
theorem kvM_congr {f g : Str → W} {σ : List Str} (h : ∀ s ∈ σ, f s = g s) : kvM f σ = kvM g σ := by
  unfold kvM
  exact List.map_congr_left fun s hs => by rw [h s hs]
abbrev lnW (fam : List Kd) : Str → W := fun s => .d (lS (LnF fam s))
abbrev owW (fam : List Kd) : Str → W := fun s => .d (lS (OwF fam s))
theorem merged_nil {L : Str → List Str} : mergedOf (rowsOf L []) = .ok [] := rfl
/-! #### frozen -/
def kFrz (R : DK) : DK := fun x O1 => match x with
  | .c j => (match O1[j]? with
    | some (.dic kvs) => (match frzD kvs with
      | some ds => (kvs.map (·.1)).all keyOk = true ∧ R (.d (.dict ds)) (O1.set j .gone)
      | none => False)
    | _ => False)
  | _ => False
instance {we : DEx} {Γ : Gm} {O : Oh} {R : DK} {xe : DX} : Go (dFrz we Γ O R xe) (we Γ O (kFrz R) xe) := ⟨fun h => h⟩
theorem frzD_kvM (g : Str → PyData) : ∀ σ : List Str, frzD (kvM (fun s => .d (g s)) σ) = some (kvD g σ)
  | [] => rfl
  | s :: r => by
    show (match frzD (kvM (fun s => .d (g s)) r) with | some ds => some ((keyD (Sum.inr s), g s) :: ds) | none => none) = _
    rw [frzD_kvM g r]; rfl
theorem go_frz {R : DK} {O O' : Oh} {j : Nat} {g : Str → PyData} {σ : List Str} [c : Cl O j (.dic (kvM (fun s => .d (g s)) σ))] [s : St O j .gone O'] (ok : ∀ s ∈ σ, OkS s) (h : R (.d (.dict (kvD g σ))) O') : kFrz R (.c j) O := by
  unfold kFrz; dsimp only; rw [c.e]; dsimp only; rw [frzD_kvM, s.e]; exact ⟨kvM_keys ok, h⟩
/-! #### pairs in order -/
abbrev prD (fam : List Kd) (s : Str) : PyData := .tuple [.str s, tS (OwF fam s)]
theorem alike_sS : ∀ a b : List Str, PySem.W.alikeAll (sD a) (sD b) = true
  | [], _ => by simp [PySem.W.alikeAll]
  | _ :: _, [] => by simp [PySem.W.alikeAll]
  | x :: a, y :: b => by
    show PySem.W.alikeAll (.str x :: sD a) (.str y :: sD b) = true
    rw [PySem.W.alikeAll, alike_sS a b]
    simp [PySem.W.alike]
theorem go_sortedP {fam : List Kd} {xs : List Str} {O : Oh} {R : DK} (h : R (.d (.list (srtD (xs.map (prD fam))))) O) : dSorted [.d (.list (xs.map (prD fam)))] O R := by
  unfold dSorted
  show (match datas ((xs.map (prD fam)).map W.d) with | some ds => alikeB ds = true ∧ sortableB ds = true ∧ ds.all (shp 40) = true ∧ R (.d (.list (srtD ds))) O | none => False)
  rw [datas_map]
  refine ⟨?_, ?_, ?_, h⟩
  · unfold alikeB
    rw [List.all_eq_true]
    intro d hd
    obtain ⟨s, _, rfl⟩ := List.mem_map.mp hd
    rw [List.all_eq_true]
    intro e he
    obtain ⟨t, _, rfl⟩ := List.mem_map.mp he
    simp only [prD, PySem.W.alike, PySem.W.alikeAll, alike_sS, Bool.and_self]
  · unfold sortableB
    rw [Bool.or_eq_true]
    left
    rw [List.all_eq_true]
    intro d hd
    obtain ⟨s, _, rfl⟩ := List.mem_map.mp hd
    rfl
  · rw [List.all_eq_true]
    intro d hd
    obtain ⟨s, _, rfl⟩ := List.mem_map.mp hd
    show ([PyData.str s, tS (OwF fam s)] : List PyData).all (shp 39) = true
    rw [List.all_cons, List.all_cons, shp_tS 38]
    rfl
end Dl
namespace Dl
open PySem PySem.Spec PyProof.Rows L2
theorem rowsOf_congr {L M : Str → List Str} {own : List Str} (h : ∀ s ∈ own, L s = M s) : rowsOf L own = rowsOf M own := by
  unfold rowsOf
  rw [List.map_congr_left h]
/-- how each kind was made -/
theorem FamOk.made {fam : List Kd} (h : FamOk fam) : ∀ s ∈ nms fam, (OwF fam s).Nodup ∧ (OwF fam s).length ≤ 4 ∧ (∀ t ∈ OwF fam s, t ∈ nms fam) ∧ ∃ m, mergedOf (rowsOf (LnF fam) (OwF fam s)) = .ok m ∧ LnF fam s = s :: m := by
  induction h with
  | nil => intro s hs; cases hs
  | @snoc fam k m h0 h1 h2 h3 h4 h5 h6 ih =>
    intro s hs
    have up : ∀ t, t ∈ nms fam → t ∈ nms (fam ++ [k]) := fun t ht => by unfold nms at *; rw [List.map_append]; exact List.mem_append_left _ ht
    have hs : s ∈ nms fam ∨ s = k.nm := by
      unfold nms at hs ⊢
      rw [List.map_append] at hs
      rcases List.mem_append.mp hs with h | h
      · exact .inl h
      · exact .inr (by simpa using h)
    rcases hs with hs | rfl
    · obtain ⟨a1, a2, a3, m', a4, a5⟩ := ih s hs
      rw [Ow_old hs, Ln_old hs]
      refine ⟨a1, a2, fun t ht => up t (a3 t ht), m', ?_, a5⟩
      rw [rowsOf_congr fun t ht => Ln_old (a3 t ht)]
      exact a4
    · rw [Ow_new h1, Ln_new h1]
      refine ⟨h2, h3, fun t ht => up t (h4 t ht), m, ?_, h6⟩
      rw [rowsOf_congr fun t ht => Ln_old (h4 t ht)]
      exact h5
/-! ### all lines, turn by turn -/
end Dl
namespace Dl
open PySem PySem.Spec PyProof.Rows L2
abbrev fmD (fam : List Kd) (ks : List Str) : PyData := .tuple (ks.map (prD fam))
/-- a list made along pairs -/
theorem lc_pairs {fam : List Kd} {ks : List Str} {i j : Nat} {tt : DT} {we : DEx} {Γ : Gm} {fin : List PyData → Oh → Prop} {O : Oh} (p : Str → Bool) (g : Str → PyData) (hz : ks.length ≤ 1000000)
    (h1 : ∀ s ∈ ks, ∀ C, C (p s) O → Tg.put (.tup [.nm i, .nm j]) (.d (prD fam s)) Γ fun Γ' => tt Γ' O C X0) (h2 : ∀ s ∈ ks, p s = true → ∀ C : DK, C (.d (g s)) O → Tg.put (.tup [.nm i, .nm j]) (.d (prD fam s)) Γ fun Γ' => we Γ' O C X0)
    (h : fin ((ks.filter p).map g) O) : lcGo (fun _ => True) (.tup [.nm i, .nm j]) tt we Γ fin ((ks.map (prD fam)).map W.d) [] O := by
  refine lc_mapI (prD fam) (fun rest acc O' => O' = O ∧ (∀ s ∈ rest, s ∈ ks) ∧ acc.length + rest.length ≤ 1000000 ∧ acc ++ (rest.filter p).map g = (ks.filter p).map g) ⟨rfl, fun _ h => h, by simpa using hz, rfl⟩ ?_ ?_
  · rintro acc O' ⟨rfl, _, _, e⟩
    simp only [List.filter_nil, List.map_nil, List.append_nil] at e
    subst e
    exact h
  · rintro s rest acc O' ⟨rfl, hm, hl, e⟩ C N hC hN
    have q1 := h1 s (hm s List.mem_cons_self)
    have q2 := h2 s (hm s List.mem_cons_self)
    rw [List.length_cons] at hl
    unfold prD at q1 q2 ⊢
    simp only [Tg.put, Tg.puts, List.map_cons, List.map_nil] at q1 q2 ⊢
    refine q1 _ ?_
    unfold kLcT
    by_cases z : p s = true
    · rw [if_pos z]
      refine q2 z _ (hC _ _ (by omega) ⟨rfl, fun w hw => hm w (List.mem_cons_of_mem _ hw), by simp; omega, ?_⟩)
      rw [List.filter_cons_of_pos z, List.map_cons] at e
      rw [← e]; simp
    · rw [if_neg z]
      rw [List.filter_cons_of_neg z] at e
      exact hN _ ⟨rfl, fun w hw => hm w (List.mem_cons_of_mem _ hw), by omega, e⟩
theorem sp_kinds_of {fam : List Kd} {ks : List Str} (hkl : ks.length ≤ 1000) {O : Oh} {R : DK} {xe : Exn → Oh → Prop} (h : R (.d (lS ks)) O) : w_kinds_of [.d (fmD fam ks)] O R xe := by
  refine def_start rfl fun n l cl => ?_
  repeat refine Go.h ?_
  refine lc_pairs (fun _ => true) PyData.str (by omega) (fun s _ C hC => ?_) (fun s _ _ C hC => ?_) ?_
  · repeat refine Go.h ?_
    exact hC
  · repeat refine Go.h ?_
    exact hC
  rw [List.filter_eq_self.mpr fun _ _ => rfl]
  repeat refine Go.h ?_
  exact h
theorem sp_need_kind {fam : List Kd} {ks : List Str} {k : Str} (hkl : ks.length ≤ 1000) (hk : k ∈ ks) {O : Oh} {R : DK} {xe : Exn → Oh → Prop} (h : R (.d .none) O) : w_need_kind [.d (fmD fam ks), .d (.str k)] O R xe := by
  refine def_start rfl fun n l cl => ?_
  repeat refine Go.h ?_
  refine sp_kinds_of hkl ?_
  repeat refine Go.h ?_
  rw [decide_eq_false (fun z => z hk)]
  repeat refine Go.h ?_
  exact h
/-! #### cells that are made at once -/
def kLcC (t : Tg) (tt : DT) (we : DEx) (Γ : Gm) (R : DK) : List W → (Oh → Prop) → Oh → Prop := fun xs ok O1 => lcGo ok t tt we Γ (fun acc O2 => R (.c O2.length) (O2 ++ [.lst (acc.map W.d)])) xs [] O1
instance {R : DK} {Γ Γ' : Gm} {O : Oh} {xe : DX} {w : DI} {t : Tg} {tt : DT} {we : DEx} {own : List Nat} [z : Wipe Γ own Γ'] : Go (dLcC w t tt we own Γ O R xe) (w Γ O (kLcC t tt we Γ' R) xe) := ⟨fun h => by unfold dLcC; rw [z.e]; exact h⟩
instance {R : DK} {Γ : Gm} {O : Oh} {t : Tg} {tt : DT} {we : DEx} {xs : List W} {ok : Oh → Prop} : Go (kLcC t tt we Γ R xs ok O) (lcGo ok t tt we Γ (fun acc O2 => R (.c O2.length) (O2 ++ [.lst (acc.map W.d)])) xs [] O) := ⟨fun h => h⟩
/-! #### items of a dict -/
def kItemsI (S : List W → (Oh → Prop) → Oh → Prop) : DK := fun r O1 => match r with
  | .d (.dict kvs) => (keysD kvs).isSome = true ∧ S (kvs.map fun p => W.p [p.1, p.2]) (fun _ => True) O1
  | _ => False
def kKeysI (S : List W → (Oh → Prop) → Oh → Prop) : DK := fun r O1 => match r with
  | .d (.dict kvs) => (keysD kvs).isSome = true ∧ S (kvs.map fun p => W.d p.1) (fun _ => True) O1
  | _ => False
instance {w : DEx} {Γ : Gm} {O : Oh} {S : List W → (Oh → Prop) → Oh → Prop} {xe : DX} : Go (dItemsI w Γ O S xe) (w Γ O (kItemsI S) xe) := ⟨fun h => h⟩
instance {w : DEx} {Γ : Gm} {O : Oh} {S : List W → (Oh → Prop) → Oh → Prop} {xe : DX} : Go (dKeysI w Γ O S xe) (w Γ O (kKeysI S) xe) := ⟨fun h => h⟩
instance {f : Str → PyData} {σ : List Str} {O : Oh} {S : List W → (Oh → Prop) → Oh → Prop} : Go (kItemsI S (.d (.dict (σ.map fun s => (PyData.str s, f s)))) O) (S (σ.map fun s => W.p [.str s, f s]) (fun _ => True) O) := ⟨fun h => by
  refine ⟨by rw [keysD_kvD]; rfl, ?_⟩
  rw [List.map_map]; exact h⟩
instance {f : Str → PyData} {σ : List Str} {O : Oh} {S : List W → (Oh → Prop) → Oh → Prop} : Go (kKeysI S (.d (.dict (σ.map fun s => (PyData.str s, f s)))) O) (S ((σ.map PyData.str).map W.d) (fun _ => True) O) := ⟨fun h => by
  refine ⟨by rw [keysD_kvD]; rfl, ?_⟩
  rw [List.map_map]
  rw [List.map_map] at h
  exact h⟩
end Dl
namespace Dl
open PySem PySem.Spec PyProof.Rows L2
/-! ### forebears -/
inductive Reach (fam : List Kd) (k : Str) : Str → Prop
  | refl : Reach fam k k
  | step {s t : Str} : Reach fam k s → t ∈ OwF fam s → Reach fam k t
theorem Reach.trans {fam : List Kd} {a b c : Str} (h1 : Reach fam a b) (h2 : Reach fam b c) : Reach fam a c := by
  induction h2 with
  | refl => exact h1
  | step _ h ih => exact ih.step h
/-- what a line has behind its kind: the parents, and what their lines have -/
theorem mem_line {fam : List Kd} (h : FamOk fam) (hr : ∀ s ∈ nms fam, (LnF fam s).Nodup) {k : Str} (hk : k ∈ nms fam) (t : Str) : t ∈ LnF fam k ↔ t = k ∨ t ∈ OwF fam k ∨ ∃ q ∈ OwF fam k, t ∈ LnF fam q := by
  obtain ⟨a1, a2, a3, m, a4, a5⟩ := h.made k hk
  have hnd : ∀ r ∈ rowsOf (LnF fam) (OwF fam k), r.Nodup := by
    intro r hr'
    unfold rowsOf at hr'
    rcases List.mem_append.mp hr' with hr' | hr'
    · obtain ⟨q, hq, rfl⟩ := List.mem_map.mp hr'
      exact hr q (a3 q hq)
    · rw [List.mem_singleton.mp hr']; exact a1
  have mo := merged_ok hnd
  rw [a4] at mo
  have hm : t ∈ m ↔ t ∈ OwF fam k ∨ ∃ q ∈ OwF fam k, t ∈ LnF fam q := by
    constructor
    · intro ht
      obtain ⟨r, hrr, htr⟩ := List.mem_flatten.mp (met_strs (mo.perm.mem_iff.mp ht))
      unfold rowsOf at hrr
      rcases List.mem_append.mp hrr with hrr | hrr
      · obtain ⟨q, hq, rfl⟩ := List.mem_map.mp hrr
        exact .inr ⟨q, hq, htr⟩
      · rw [List.mem_singleton.mp hrr] at htr
        exact .inl htr
    · intro ht
      rcases ht with ht | ⟨q, hq, ht⟩
      · exact mo.mem (r := OwF fam k) (by unfold rowsOf; simp) ht
      · exact mo.mem (r := LnF fam q) (by unfold rowsOf; exact List.mem_append_left _ (List.mem_map.mpr ⟨q, hq, rfl⟩)) ht
  rw [a5, List.mem_cons, hm]
theorem FamOk.lnd {fam : List Kd} (h : FamOk fam) : ∀ s ∈ nms fam, (LnF fam s).Nodup := fun s hs => (h.line s hs).1
theorem self_line {fam : List Kd} (h : FamOk fam) {k : Str} (hk : k ∈ nms fam) : k ∈ LnF fam k := (mem_line h h.lnd hk k).mpr (.inl rfl)
end Dl
namespace Dl
open PySem PySem.Spec PyProof.Rows L2
/-! ### pairs in order are names in order -/
theorem dataLe_pr (fam : List Kd) (a b : Str) : PySem.W.dataLe false (fun d => d) (prD fam a) (prD fam b) = leS a b := by
  by_cases z : a = b
  · subst z
    rw [PySem.W.dataLe_eq]
    dsimp only [cond]
    rw [show PySem.W.dataLt (prD fam a) (prD fam a) = false from lex_irrefl _]
    exact (decide_eq_true (List.le_refl _)).symm
  · have e : PyData.eqv (.str b) (.str a) = false := by
      show (b == a) = false
      rw [beq_eq_false_iff_ne]
      exact fun h => z h.symm
    have hal : PySem.W.alike (.tuple (sD (OwF fam b))) (.tuple (sD (OwF fam a))) = true := by
      simp only [PySem.W.alike]
      exact alike_sS _ _
    rw [← dataLe_strs, PySem.W.dataLe_eq]
    dsimp only [cond]
    rw [PySem.W.dataLt_pair (by simp [PySem.W.alike]) hal, e]
    rfl
theorem srtD_pr (fam : List Kd) (xs : List Str) : srtD (xs.map (prD fam)) = (srtS xs).map (prD fam) := by
  unfold srtD srtS
  exact (List.map_mergeSort fun a _ b _ => (dataLe_pr fam a b).symm).symm
end Dl
namespace Dl
open PySem PySem.Spec PyProof.Rows L2
/-! ### more walks -/
def kZip (S : List W → (Oh → Prop) → Oh → Prop) : List W → Oh → Prop := fun xs O1 => match xs with
  | [.d (.list ds), .d (.list es)] => S (zipW ds es) (fun _ => True) O1
  | [.d (.tuple ds), .d (.tuple es)] => S (zipW ds es) (fun _ => True) O1
  | _ => False
instance {ws : DA} {Γ : Gm} {O : Oh} {S : List W → (Oh → Prop) → Oh → Prop} {xe : DX} : Go (dZip ws Γ O S xe) (ws Γ O (kZip S) xe) := ⟨fun h => h⟩
instance {O : Oh} {S : List W → (Oh → Prop) → Oh → Prop} {ds es : List PyData} : Go (kZip S [.d (.tuple ds), .d (.tuple es)] O) (S (zipW ds es) (fun _ => True) O) := ⟨fun h => h⟩
instance {O : Oh} {S : List W → (Oh → Prop) → Oh → Prop} {ds es : List PyData} : Go (kZip S [.d (.list ds), .d (.list es)] O) (S (zipW ds es) (fun _ => True) O) := ⟨fun h => h⟩
theorem draw_at {f : DFn} {args : List W} {Q : PyData → Prop} {B : Oh} {x y : Int} {R : DK} {xe : Exn → Oh → Prop} (d : Draws B.length f args Q) (ok : PotOk x y) (k : ∀ v x' y', Q v → PotOk x' y' → R (.d v) (B ++ [potC x' y'])) : f args (B ++ [potC x y]) R xe := by
  refine d _ _ _ ⟨x, y, by rw [List.getElem?_append_right (Nat.le_refl _), Nat.sub_self]; rfl, ok⟩ ?_
  rintro v S hq ⟨_, x2, y2, rfl, ok2⟩
  rw [List.set_append_right _ _ (Nat.le_refl _), Nat.sub_self]
  exact k v x2 y2 hq ok2
end Dl
namespace Dl
open PySem PySem.Spec PyProof.Rows L2
/-! ### lines keep lines -/
theorem filter_sub {xs a b : List Str} (h1 : xs.filter (fun s => decide (s ∈ a)) = a) (hs : ∀ s ∈ b, s ∈ a) (h2 : a.filter (fun s => decide (s ∈ b)) = b) : xs.filter (fun s => decide (s ∈ b)) = b := by
  rw [← h1, List.filter_filter] at h2
  have e : xs.filter (fun s => decide (s ∈ b)) = xs.filter fun s => decide (s ∈ b) && decide (s ∈ a) := List.filter_congr fun s _ => by
    by_cases z : s ∈ b
    · rw [decide_eq_true z, decide_eq_true (hs s z)]; rfl
    · rw [decide_eq_false z]; rfl
  rw [e]; exact h2
theorem FamOk.keep {fam : List Kd} (h : FamOk fam) : ∀ k ∈ nms fam, ∀ q ∈ LnF fam k,
    (LnF fam k).filter (fun s => decide (s ∈ LnF fam q)) = LnF fam q ∧ (LnF fam k).filter (fun s => decide (s ∈ OwF fam q)) = OwF fam q ∧ (q ≠ k → (LnF fam q).length < (LnF fam k).length) := by
  induction h with
  | nil => intro s hs; cases hs
  | @snoc fam k m h0 h1 h2 h3 h4 h5 h6 ih =>
    intro s hs q hq
    have hs : s ∈ nms fam ∨ s = k.nm := by
      unfold nms at hs ⊢
      rw [List.map_append] at hs
      rcases List.mem_append.mp hs with h | h
      · exact .inl h
      · exact .inr (by simpa using h)
    rcases hs with hs | rfl
    · rw [Ln_old hs] at hq ⊢
      have hqn := (h0.line s hs).2 q hq
      rw [Ln_old hqn, Ow_old hqn]
      exact ih s hs q hq
    · rw [Ln_new h1, h6] at hq ⊢
      have hr : ∀ r ∈ rowsOf (LnF fam) k.own, r.Nodup := by
        intro r hr
        unfold rowsOf at hr
        rcases List.mem_append.mp hr with hr | hr
        · obtain ⟨p, hp, rfl⟩ := List.mem_map.mp hr
          exact (h0.line p (h4 p hp)).1
        · rw [List.mem_singleton.mp hr]; exact h2
      have mo := merged_ok hr
      rw [h5] at mo
      have kown : m.filter (fun s => decide (s ∈ k.own)) = k.own := mo.keep _ (by unfold rowsOf; simp)
      have kline : ∀ p ∈ k.own, m.filter (fun s => decide (s ∈ LnF fam p)) = LnF fam p := fun p hp => mo.keep _ (by unfold rowsOf; exact List.mem_append_left _ (List.mem_map.mpr ⟨p, hp, rfl⟩))
      have hkn : k.nm ∉ m := fun z => by
        obtain ⟨r, hrr, htr⟩ := List.mem_flatten.mp (met_strs (mo.perm.mem_iff.mp z))
        unfold rowsOf at hrr
        rcases List.mem_append.mp hrr with hrr | hrr
        · obtain ⟨p, hp, rfl⟩ := List.mem_map.mp hrr
          exact h1 ((h0.line p (h4 p hp)).2 _ htr)
        · rw [List.mem_singleton.mp hrr] at htr; exact h1 (h4 _ htr)
      rcases List.mem_cons.mp hq with rfl | hq
      · rw [Ln_new h1, Ow_new h1, h6]
        refine ⟨List.filter_eq_self.mpr fun a ha => decide_eq_true ha, ?_, fun z => absurd rfl z⟩
        rw [List.filter_cons_of_neg (by simpa using fun z => h1 (h4 _ z))]
        exact kown
      · obtain ⟨p, hp, hqp⟩ : ∃ p ∈ k.own, q ∈ LnF fam p := by
          obtain ⟨r, hrr, htr⟩ := List.mem_flatten.mp (met_strs (mo.perm.mem_iff.mp hq))
          unfold rowsOf at hrr
          rcases List.mem_append.mp hrr with hrr | hrr
          · obtain ⟨p, hp, rfl⟩ := List.mem_map.mp hrr
            exact ⟨p, hp, htr⟩
          · rw [List.mem_singleton.mp hrr] at htr
            exact ⟨q, htr, self_line h0 (h4 q htr)⟩
        have hpn := h4 p hp
        have hqn := (h0.line p hpn).2 q hqp
        rw [Ln_old hqn, Ow_old hqn]
        obtain ⟨a1, a2, a3⟩ := ih p hpn q hqp
        have hsub : ∀ s ∈ LnF fam q, s ∈ LnF fam p := fun s hs => by
          rw [← a1] at hs
          exact (List.mem_filter.mp hs).1
        have hsub2 : ∀ s ∈ OwF fam q, s ∈ LnF fam p := fun s hs => by
          rw [← a2] at hs
          exact (List.mem_filter.mp hs).1
        have e1 := filter_sub (kline p hp) hsub a1
        have e2 := filter_sub (kline p hp) hsub2 a2
        have n1 : k.nm ∉ LnF fam q := fun z => h1 ((h0.line q hqn).2 _ z)
        have n2 : k.nm ∉ OwF fam q := fun z => h1 ((h0.line p hpn).2 _ (hsub2 _ z))
        refine ⟨?_, ?_, fun _ => ?_⟩
        · rw [List.filter_cons_of_neg (by simpa using n1)]; exact e1
        · rw [List.filter_cons_of_neg (by simpa using n2)]; exact e2
        · have := List.length_filter_le (fun s => decide (s ∈ LnF fam q)) m
          rw [e1] at this
          simp; omega
end Dl
namespace Dl
open PySem PySem.Spec PyProof.Rows L2
/-! ### kinds changed -/
/-- one kind's parents otherwise -/
def chg (fam : List Kd) (k : Str) (own : List Str) : List Kd := fam.map fun q => if q.nm = k then { q with own := own } else q
theorem chg_nms (fam : List Kd) (k : Str) (own : List Str) : nms (chg fam k own) = nms fam := by
  unfold nms chg
  rw [List.map_map]
  refine List.map_congr_left fun q _ => ?_
  show (if q.nm = k then { q with own := own } else q).nm = q.nm
  split <;> rfl
theorem chg_kd (fam : List Kd) (k : Str) (own : List Str) (s : Str) : kdOf (chg fam k own) s = (kdOf fam s).map fun q => if q.nm = k then { q with own := own } else q := by
  unfold kdOf chg
  induction fam with
  | nil => rfl
  | cons q r ih =>
    rw [List.map_cons, List.find?_cons, List.find?_cons]
    have e : (if q.nm = k then { q with own := own } else q).nm = q.nm := by split <;> rfl
    rw [e]
    cases q.nm == s with
    | true => rfl
    | false => exact ih
theorem chg_Ln (fam : List Kd) (k : Str) (own : List Str) (s : Str) : LnF (chg fam k own) s = LnF fam s := by
  unfold LnF
  rw [chg_kd]
  cases kdOf fam s with
  | none => rfl
  | some q =>
    show (if q.nm = k then { q with own := own } else q).line = q.line
    split <;> rfl
/-- .. a family again, with the lines that it had -/
theorem FamOk.chg {fam : List Kd} (h : FamOk fam) {k : Str} {own m : List Str} : ∀ {pre post : List Kd} {q : Kd}, fam = pre ++ q :: post → q.nm = k → own.Nodup → own.length ≤ 4 → (∀ s ∈ own, s ∈ nms pre) → mergedOf (rowsOf (LnF fam) own) = .ok m → LnF fam k = k :: m → FamOk (chg fam k own) := by
  induction h with
  | nil => intro pre post q e; simp at e
  | @snoc fam z m' h0 h1 h2 h3 h4 h5 h6 ih =>
    intro pre post q e hq nd l4 hpre hm hl
    rcases List.eq_nil_or_concat post with rfl | ⟨post', b, rfl⟩
    · obtain ⟨rfl, e3⟩ := List.append_inj' e rfl
      injection e3 with e3 _
      subst e3
      have e4 : Dl.chg (fam ++ [z]) k own = fam ++ [{ z with own := own }] := by
        unfold Dl.chg
        rw [List.map_append, List.map_cons, List.map_nil, if_pos hq]
        congr 1
        refine (List.map_congr_left fun x hx => ?_).trans (List.map_id _)
        rw [if_neg]
        · rfl
        · intro e
          exact h1 (by rw [hq, ← e]; exact List.mem_map.mpr ⟨x, hx, rfl⟩)
      rw [e4]
      rw [← hq, Ln_new h1] at hl
      refine .snoc (m := m) h0 h1 nd l4 hpre ?_ (by rw [hq] at hl; rw [hq]; exact hl)
      rw [← hm]
      exact congrArg mergedOf (rowsOf_congr fun s hs => (Ln_old (hpre s hs)).symm)
    · have e1 : fam ++ [z] = (pre ++ q :: post') ++ [b] := by rw [e]; simp
      have e2 := (List.append_inj' e1 rfl).1
      have hk : k ∈ nms fam := by rw [e2, ← hq]; unfold nms; simp
      have hzk : z.nm ≠ k := fun c => h1 (c ▸ hk)
      have hpf : ∀ s ∈ own, s ∈ nms fam := fun s hs => by
        have := hpre s hs
        rw [e2]
        unfold nms at *
        rw [List.map_append]
        exact List.mem_append_left _ this
      have hm' : mergedOf (rowsOf (LnF fam) own) = .ok m := by
        rw [← hm]
        exact congrArg mergedOf (rowsOf_congr fun s hs => (Ln_old (hpf s hs)).symm)
      rw [Ln_old hk] at hl
      have r := ih e2 hq nd l4 hpre hm' hl
      have e4 : Dl.chg (fam ++ [z]) k own = Dl.chg fam k own ++ [z] := by
        unfold Dl.chg
        rw [List.map_append, List.map_cons, List.map_nil, if_neg hzk]
      rw [e4]
      refine .snoc (m := m') r (by rw [chg_nms]; exact h1) h2 h3 (fun s hs => by rw [chg_nms]; exact h4 s hs) ?_ h6
      rw [← h5]
      exact congrArg mergedOf (rowsOf_congr fun s hs => chg_Ln _ _ _ _)
end Dl
namespace Dl
open PySem PySem.Spec PyProof.Rows L2
def w_is_name : DFn := dDef 2 1 (
  (dSeq (dIf (dOr (dNot (dB (dIsi "str" (dVar 0)))) (dNot (dB (dChain dLe dLe (dC (.int 1)) (dCB dLen (dCons (dVar 0) dNil)) (dC (.int 8))))))
   (dRet (dC (.bool false)))
   dNext)
  (dRet (dCB dAll (dCons (dLc (dStrI (dVar 0)) (.nm 1) dYes (dOp (dIn2 false) (dVar 1) (dC (.str "abcdefghijklmnopqrstuvwxyz"))) [1]) dNil)))))
/-! ### a family is told as one -/
def kSortSet (R : DK) : DK := fun x O1 => match asL x O1 with
  | some ws => (match datas ws with
    | some ds => (match strsD ds with
      | some ys => ys.length ≤ 1000 ∧ (met ys).length < 64 ∧ R (.d (.list ((srtS (met ys)).map PyData.str))) O1
      | none => False)
    | none => False)
  | none => False
instance {R : DK} {Γ : Gm} {O : Oh} {xe : DX} {w : DEx} : Go (dSortSet w Γ O R xe) (w Γ O (kSortSet R) xe) := ⟨fun h => h⟩
def kStrI (S : List W → (Oh → Prop) → Oh → Prop) : DK := fun r O1 => match r with
  | .d (.str s) => S (((chS s).map PyData.str).map W.d) (fun _ => True) O1
  | _ => False
instance {S : List W → (Oh → Prop) → Oh → Prop} {Γ : Gm} {O : Oh} {xe : DX} {w : DEx} : Go (dStrI w Γ O S xe) (w Γ O (kStrI S) xe) := ⟨fun h => h⟩
instance {S : List W → (Oh → Prop) → Oh → Prop} {O : Oh} {s : Str} : Go (kStrI S (.d (.str s)) O) (S (((chS s).map PyData.str).map W.d) (fun _ => True) O) := ⟨fun h => h⟩
theorem go_inStr {neg : Bool} {a b : Str} {O : Oh} {R : DK} (h : R (.d (.bool (if neg then !strIn a b else strIn a b))) O) : dIn2 neg (.d (.str a)) (.d (.str b)) O R := h
theorem go_lenS {s : Str} {O : Oh} {R : DK} (hz : s.length ≤ 1000000) (h : R (.d (.int (s.length : Nat))) O) : dLen [.d (.str s)] O R := ⟨hz, h⟩
theorem letters_mem : ∀ c : Nat, c < 123 → 97 ≤ c → c ∈ ("abcdefghijklmnopqrstuvwxyz" : Str).cps.toList := by decide +kernel
theorem sp_is_name {s : Str} (h : IsNm s) {O : Oh} {R : DK} {xe : Exn → Oh → Prop} (k : R (.d (.bool true)) O) : w_is_name [.d (.str s)] O R xe := by
  obtain ⟨h1, h2, h3⟩ := h
  refine def_start rfl fun n l cl => ?_
  repeat refine Go.h ?_
  refine go_lenS (by omega) ?_
  repeat refine Go.h ?_
  rw [decide_eq_true (by omega)]
  repeat refine Go.h ?_
  rw [decide_eq_true (by omega)]
  repeat refine Go.h ?_
  refine lc_all PyData.str (fun _ => .bool true) trivial (by rw [chS_len]; show s.length ≤ _; omega) (fun z hz C hC => ?_) ?_
  · repeat refine Go.h ?_
    refine go_inStr ?_
    rw [if_neg Bool.false_ne_true]
    obtain ⟨c, hc, rfl⟩ := List.mem_map.mp hz
    rw [strIn_sign, decide_eq_true (letters_mem c (h3 c hc).2 (h3 c hc).1)]
    exact hC
  repeat refine Go.h ?_
  have e : ((chS s).map fun _ => true).all id = true := by rw [List.all_map]; simp
  rw [e]
  repeat refine Go.h ?_
  exact k
end Dl
namespace Dl
open PySem PySem.Spec PyProof.Rows L2
def w_entry_of : DFn := dDef 6 3 (
  (dSeq (dFor (dSeqI (dVar 0)) (.tup [(.nm 3), (.nm 4), (.nm 5)])
   (dIf (dAnd (dB (dOp dEq (dVar 3) (dVar 1))) (dB (dOp dEq (dVar 4) (dVar 2))))
    (dRet (dVar 5))
    dNext))
  (dRet (dC .none))))
def w__law_family4 : DFn := dDef 7 2 (
  (dSeq (dPar 3 4 (dCons dDicK (dCons dDicK dNil)))
  (dSeq (dFor (dSeqI (dVar 1)) (.nm 2)
   (dSeq (dAsg (dCall0 w__law_parents (dCons (dVar 0) (dCons (dCB dListOf2 (dCons (dVar 3) dNil)) dNil))) (.nm 5))
   (dSeq (dFor (dRng1 (dCons (dC (.int 4)) dNil)) (.nm 6)
    (dIf (dB (dOp (dIs2 false) (dCall0 w__law_line (dCons (dVar 3) (dCons (dVar 2) (dCons (dVar 5) dNil)))) (dC .none)))
     (dAsg (dSlice (dVar 5) dO0 (dO1 (dNeg (dC (.int 1))))) (.nm 5))
     dNext))
   (dSeq (dSetI (dVar 3) (dVar 2) (dCall0 w__law_line (dCons (dVar 3) (dCons (dVar 2) (dCons (dVar 5) dNil)))))
   (dSetI (dVar 4) (dVar 2) (dVar 5))))))
  (dRet (dTup (dCons (dFrz (dVar 3)) (dCons (dFrz (dVar 4)) dNil)))))))
def w__law_family_tuple : DFn := dDef 2 1 (
  (dRet (dCB dTupOf (dCons (dCB dSorted (dCons (dLc (dKeysI (dVar 0)) (.nm 1) dYes (dTup (dCons (dVar 1) (dCons (dCB dTupOf (dCons (dOp dIx2 (dVar 0) (dVar 1)) dNil)) dNil))) [1]) dNil)) dNil))))
def w__law_number : DFn := dDef 3 1 (
  (dSeq (dAsg (dOp dSub (dCall0 w__law_digit (dCons (dVar 0) (dCons (dC (.int 41)) dNil))) (dC (.int 20))) (.nm 1))
  (dSeq (dAsg (dOp dAdd (dOp dSub (dCall0 w__law_digit (dCons (dVar 0) (dCons (dOp dSub (dOp dMul (dC (.int 2)) (dOp dPow (dC (.int 10)) (dC (.int 18)))) (dC (.int 1))) dNil))) (dOp dPow (dC (.int 10)) (dC (.int 18)))) (dC (.int 1))) (.nm 2))
  (dRet (dOp dIx2 (dLst (dCons (dVar 1) (dCons (dVar 1) (dCons (dC (.int 0)) (dCons (dVar 2) dNil))))) (dCall0 w__law_digit (dCons (dVar 0) (dCons (dC (.int 4)) dNil))))))))
def w__law_step : DFn := dDef 5 3 (
  (dSeq (dAsg (dCall0 w__law_digit (dCons (dVar 0) (dCons (dC (.int 6)) dNil))) (.nm 3))
  (dSeq (dIf (dB (dOp dEq (dVar 3) (dC (.int 0))))
   (dRet (dTup (dCons (dC (.str "add")) (dCons (dCall0 w__law_number (dCons (dVar 0) dNil)) dNil))))
   dNext)
  (dSeq (dIf (dB (dOp dEq (dVar 3) (dC (.int 1))))
   (dRet (dTup (dCons (dC (.str "times")) (dCons (dOp dSub (dCall0 w__law_digit (dCons (dVar 0) (dCons (dC (.int 19)) dNil))) (dC (.int 9))) dNil))))
   dNext)
  (dSeq (dIf (dB (dOp dLt2 (dVar 3) (dC (.int 4))))
   (dRet (dTup (dCons (dC (.str "onward")) dNil)))
   dNext)
  (dSeq (dAsg (dSlice (dVar 1) (dO1 (dOp dAdd (dVar 2) (dC (.int 1)))) dO0) (.nm 4))
  (dSeq (dIf (dOr (dB (dOp dEq (dVar 4) (dLst dNil))) (dB (dOp dEq (dCall0 w__law_digit (dCons (dVar 0) (dCons (dC (.int 4)) dNil))) (dC (.int 0)))))
   (dAsg (dVar 1) (.nm 4))
   dNext)
  (dRet (dTup (dCons (dC (.str "ask")) (dCons (dOp dIx2 (dVar 4) (dCall0 w__law_digit (dCons (dVar 0) (dCons (dCB dLen (dCons (dVar 4) dNil)) dNil)))) dNil)))))))))))
def w__law_entry : DFn := dDef 6 3 (
  (dSeq (dAsg (dCall0 w__law_digit (dCons (dVar 0) (dCons (dC (.int 5)) dNil))) (.nm 3))
  (dSeq (dIf (dB (dOp dEq (dVar 3) (dC (.int 0))))
   (dRet (dTup (dCons (dC (.str "plain")) (dCons (dCall0 w__law_number (dCons (dVar 0) dNil)) dNil))))
   dNext)
  (dSeq (dIf (dB (dOp dEq (dVar 3) (dC (.int 1))))
   (dRet (dTup (dCons (dC (.str "ahead")) (dCons (dOp dIx2 (dVar 1) (dOp dMod (dOp dAdd (dOp dAdd (dVar 2) (dC (.int 1))) (dCall0 w__law_digit (dCons (dVar 0) (dCons (dCB dLen (dCons (dVar 1) dNil)) dNil)))) (dCB dLen (dCons (dVar 1) dNil)))) (dCons (dCall0 w__law_number (dCons (dVar 0) dNil)) dNil)))))
   dNext)
  (dSeq (dAsg (dCB dTupOf (dCons (dLc (dRng1 (dCons (dCall0 w__law_digit (dCons (dVar 0) (dCons (dC (.int 5)) dNil))) dNil)) (.nm 5) dYes (dCall0 w__law_step (dCons (dVar 0) (dCons (dVar 1) (dCons (dVar 2) dNil)))) [5]) dNil)) (.nm 4))
  (dRet (dTup (dCons (dOp dIx2 (dLst (dCons (dC (.str "behind")) (dCons (dC (.str "behind")) (dCons (dC (.str "shut")) dNil)))) (dOp dSub (dVar 3) (dC (.int 2)))) (dCons (dVar 4) dNil)))))))))
def w__law_book_tuple : DFn := dDef 3 1 (
  (dRet (dCB dTupOf (dCons (dCB dSortT (dCons (dLck 0 (dLc (dKeysT (dVar 0)) (.tup [(.nm 1), (.nm 2)]) dYes (dTup (dCons (dVar 1) (dCons (dVar 2) (dCons (dOp dIx2 (dVar 0) (dTupK (dCons (dVar 1) (dCons (dVar 2) dNil)))) dNil)))) [1, 2])) dNil)) dNil))))
end Dl
namespace Dl
open PySem PySem.Spec PyProof.Rows L2
theorem family4_draws {p : Nat} {xs : List Str} {m : Nat} (nm : NamesD xs m) (hz : m ≤ 8) : Draws p w__law_family4 [.c p, .d (lS xs)] fun v => ∃ fam, FamOk fam ∧ nms fam = xs ∧
    v = .tuple [.dict (kvD (fun s => lS (LnF fam s)) xs), .dict (kvD (fun s => lS (OwF fam s)) xs)] := by
  have hxl := nm.len
  intro O R xe hp h
  refine def_start rfl fun n l cl => ?_
  repeat refine Go.h ?_
  refine for_mapD PyData.str (fun rest Γ S => ∃ O1 fam x2 x6 x7, Γ = [some (.c p), some (.d (lS xs)), x2, some (.c (n + 0)), some (.c (n + 1)), x6, x7] ∧ S = O1 ++ [.dic (kvM (lnW fam) (nms fam)), .dic (kvM (owW fam) (nms fam))] ∧ Pt p n O O1 ∧ FamOk fam ∧ nms fam ++ rest = xs)
    ⟨O, [], _, _, _, rfl, rfl, Pt.start hp l cl, .nil, rfl⟩ ?_ ?_
  · rintro Γ S ⟨O1, fam, x2, x6, x7, rfl, rfl, pt, hf, e⟩
    rw [List.append_nil] at e
    haveI := pt.l
    haveI := pt.c
    repeat refine Go.h ?_
    have ok : ∀ s ∈ nms fam, OkS s := fun s hs => nm.ok s (by rw [← e]; exact hs)
    refine go_frz ok ?_
    repeat refine Go.h ?_
    refine go_frz ok ?_
    repeat refine Go.h ?_
    refine h _ _ ⟨fam, hf, e, ?_⟩ pt.chg
    rw [e]
  · rintro k rest Γ S ⟨O1, fam, x2, x6, x7, rfl, rfl, pt, hf, e⟩ C hC
    haveI := pt.l
    haveI := pt.c
    have hmem : ∀ s ∈ nms fam, s ∈ xs := fun s hs => by rw [← e]; exact List.mem_append_left _ hs
    have ok : ∀ s ∈ nms fam, OkS s := fun s hs => nm.ok s (hmem s hs)
    have hk : k ∈ xs := by rw [← e]; simp
    have hfl : fam.length ≤ 7 := by
      have := congrArg List.length e
      simp at this
      omega
    have hkn : k ∉ nms fam := by
      have nd := nm.nd
      rw [← e, List.nodup_append] at nd
      exact fun z => nd.2.2 k z k List.mem_cons_self rfl
    repeat refine Go.h ?_
    refine go_listOfK (f := lnW fam) (by simp; omega) ok ?_
    repeat refine Go.h ?_
    refine pt_call (parents_draw (by simp; omega)) pt fun v O2 ⟨own0, rest0, ev, hpm, h4⟩ pt => ?_
    subst ev
    haveI := pt.l
    haveI := pt.c
    repeat refine Go.h ?_
    refine go_rng (n := 4) (by decide) ?_
    repeat refine Go.h ?_
    have hnd0 : own0.Nodup := by
      have := hpm.nodup_iff.mpr hf.nd
      exact (List.nodup_append.mp this).1
    have hin0 : ∀ s ∈ own0, s ∈ nms fam := fun s hs => hpm.mem_iff.mp (List.mem_append_left _ hs)
    refine for_rng (fun i Γ S => ∃ own x7, Γ = [some (.c p), some (.d (lS xs)), some (.d (.str k)), some (.c (n + 0)), some (.c (n + 1)), some (.d (lS own)), x7] ∧ S = O2 ++ [.dic (kvM (lnW fam) (nms fam)), .dic (kvM (owW fam) (nms fam))] ∧
        own.Nodup ∧ own.length ≤ 4 ∧ (∀ s ∈ own, s ∈ nms fam) ∧ ((∃ m, mergedOf (rowsOf (LnF fam) own) = .ok m) ∨ own.length + i ≤ 4))
      ⟨own0, _, rfl, rfl, hnd0, h4, hin0, .inr h4⟩ ?_ ?_
    · rintro Γ S ⟨own, x7, rfl, rfl, o1, o2, o3, o4⟩
      obtain ⟨mm, hm⟩ : ∃ m, mergedOf (rowsOf (LnF fam) own) = .ok m := by
        rcases o4 with o4 | o4
        · exact o4
        · have : own = [] := List.eq_nil_of_length_eq_zero (by omega)
          subst this
          exact ⟨_, merged_nil⟩
      have g := hf.good (by omega) ok o1 o2 o3
      repeat refine Go.h ?_
      refine sp_law_line (L := LnF fam) (σ := nms fam) g o3 (fun M => inferInstance) ?_
      rw [hm]
      dsimp only [okO, lineO]
      have hkd : (Kd.mk k own (k :: mm)).nm ∉ nms fam := hkn
      have e1 : kvM (lnW fam) (nms fam) = kvM (lnW (fam ++ [⟨k, own, k :: mm⟩])) (nms fam) := kvM_congr fun s hs => by show W.d _ = W.d _; rw [Ln_old hs]
      have e2 : kvM (owW fam) (nms fam) = kvM (owW (fam ++ [⟨k, own, k :: mm⟩])) (nms fam) := kvM_congr fun s hs => by show W.d _ = W.d _; rw [Ow_old hs]
      rw [e1, e2]
      repeat refine Go.h ?_
      refine putix_new (f := lnW (fam ++ [⟨k, own, k :: mm⟩])) (by simp; omega) hkn ?_ ?_
      · show _ = W.d _
        rw [Ln_new hkd]
      repeat refine Go.h ?_
      refine putix_new (f := owW (fam ++ [⟨k, own, k :: mm⟩])) (by simp; omega) hkn ?_ ?_
      · show _ = W.d _
        rw [Ow_new hkd]
      have e3 : nms (fam ++ [⟨k, own, k :: mm⟩]) = nms fam ++ [k] := by unfold nms; rw [List.map_append]; rfl
      refine hC _ _ ⟨O2, fam ++ [⟨k, own, k :: mm⟩], _, _, _, rfl, by rw [e3], pt, .snoc hf hkn o1 o2 o3 hm rfl, by rw [e3, ← e]; simp⟩
    · rintro i Γ S hi ⟨own, x7, rfl, rfl, o1, o2, o3, o4⟩ C2 hC2
      have g := hf.good (by omega) ok o1 o2 o3
      repeat refine Go.h ?_
      refine sp_law_line (L := LnF fam) (σ := nms fam) g o3 (fun M => inferInstance) ?_
      cases hm : mergedOf (rowsOf (LnF fam) own) with
      | ok mm =>
        dsimp only [okO, lineO]
        repeat refine Go.h ?_
        rw [show (if false = true then !isNone (W.d (lS (k :: mm))) else isNone (W.d (lS (k :: mm)))) = false from rfl]
        repeat refine Go.h ?_
        exact hC2 _ _ ⟨own, _, rfl, rfl, o1, o2, o3, .inl ⟨mm, hm⟩⟩
      | error ring =>
        dsimp only [okO, lineO]
        repeat refine Go.h ?_
        rw [show (if false = true then !isNone (W.d PyData.none) else isNone (W.d PyData.none)) = true from rfl]
        repeat refine Go.h ?_
        rw [cut_m1, List.dropLast_eq_take, ← List.map_take, List.length_map, ← List.dropLast_eq_take]
        have hne : own ≠ [] := by
          rintro rfl
          rw [merged_nil] at hm
          cases hm
        have hl := List.length_pos_iff.mpr hne
        refine hC2 _ _ ⟨own.dropLast, _, rfl, rfl, o1.sublist (List.dropLast_sublist _), by simp; omega, fun s hs => o3 s ((List.dropLast_sublist _).subset hs), .inr ?_⟩
        rcases o4 with ⟨m', hm'⟩ | o4
        · rw [hm] at hm'; cases hm'
        · simp; omega
end Dl
namespace Dl
open PySem PySem.Spec PyProof.Rows L2
/-! ### entries, drawn -/
theorem number_draw {p : Nat} : Draws p w__law_number [.c p] fun v => ∃ i : Int, v = .int i := by
  intro O R xe hp h
  refine def_start rfl fun n l cl => ?_
  have pt := Pt.start hp l cl
  repeat refine Go.h ?_
  refine digit_at (by decide) (by decide) pt fun d0 O2 hd0 pt => ?_
  haveI := pt.l
  haveI := pt.c
  repeat refine Go.h ?_
  refine ⟨⟨by decide, by decide, by decide⟩, ?_⟩
  repeat refine Go.h ?_
  refine ⟨.inl ⟨by decide, by decide⟩, ?_⟩
  repeat refine Go.h ?_
  refine digit_at (by decide) (by decide) pt fun d1 O3 hd1 pt => ?_
  haveI := pt.l
  haveI := pt.c
  repeat refine Go.h ?_
  refine ⟨⟨by decide, by decide, by decide⟩, ?_⟩
  repeat refine Go.h ?_
  refine digit_at (by decide) (by decide) pt fun d2 O4 hd2 pt => ?_
  haveI := pt.l
  haveI := pt.c
  have hi : ∃ i : Int, atI (([PyData.int ((d0 : Int) - 20), .int ((d0 : Int) - 20), .int 0, .int ((d1 : Int) - 10 ^ Int.toNat 18 + 1)] : List PyData).map W.d) (d2 : Nat) = some (.d (.int i)) := by
    have : d2 = 0 ∨ d2 = 1 ∨ d2 = 2 ∨ d2 = 3 := by omega
    rcases this with rfl | rfl | rfl | rfl <;> exact ⟨_, rfl⟩
  obtain ⟨i, hi⟩ := hi
  repeat refine Go.h ?_
  refine go_ix hi ?_
  repeat refine Go.h ?_
  exact h _ _ ⟨_, rfl⟩ pt.chg
/-! #### data that stays -/
theorem alike_all {n : Nat} (h : ∀ d, shp n d = true → PySem.W.alike d d = true) : ∀ ds : List PyData, ds.all (shp n) = true → PySem.W.alikeAll ds ds = true
  | [], _ => by simp [PySem.W.alikeAll]
  | d :: r, e => by
    rw [List.all_cons, Bool.and_eq_true] at e
    simp only [PySem.W.alikeAll, h d e.1, alike_all h r e.2, Bool.and_self]
theorem alike_refl : ∀ (n : Nat) (d : PyData), shp n d = true → PySem.W.alike d d = true
  | n, .none, _ => by simp [PySem.W.alike]
  | n, .bool b, _ => by simp [PySem.W.alike]
  | n, .int i, _ => by simp [PySem.W.alike]
  | n, .str s, _ => by simp [PySem.W.alike]
  | 0, .list ds, h | 0, .tuple ds, h => by cases h
  | n + 1, .list ds, h => by simp only [PySem.W.alike]; exact alike_all (alike_refl n) ds h
  | n + 1, .tuple ds, h => by simp only [PySem.W.alike]; exact alike_all (alike_refl n) ds h
  | 0, .dict _, h | _ + 1, .dict _, h => by cases h
theorem shp_up : ∀ (n : Nat) (d : PyData), shp n d = true → shp (n + 1) d = true
  | n, .none, _ => by cases n <;> rfl
  | n, .bool b, _ => by cases n <;> rfl
  | n, .int i, _ => by cases n <;> rfl
  | n, .str s, _ => by cases n <;> rfl
  | 0, .list ds, h | 0, .tuple ds, h => by cases h
  | n + 1, .list ds, h => List.all_eq_true.mpr fun d hd => shp_up n d (List.all_eq_true.mp h d hd)
  | n + 1, .tuple ds, h => List.all_eq_true.mpr fun d hd => shp_up n d (List.all_eq_true.mp h d hd)
  | 0, .dict _, h | _ + 1, .dict _, h => by cases h
theorem shp_le {m n : Nat} (h : m ≤ n) {d : PyData} (hd : shp m d = true) : shp n d = true := by
  induction h with
  | refl => exact hd
  | step _ ih => exact shp_up _ _ ih
def EntOk (e : PyData) : Prop := ∃ es, e = .tuple es ∧ shp 4 e = true
theorem at_mem {xs : List Str} {d : Nat} (h : d < xs.length) : ∃ s ∈ xs, atI ((sD xs).map W.d) (d : Nat) = some (.d (.str s)) := ⟨xs[d], List.getElem_mem h, atI_map (by simp [h])⟩
end Dl
namespace Dl
open PySem PySem.Spec PyProof.Rows L2
/-! ### books -/
abbrev Bk := List (Str × Str × PyData)
abbrev isB (k n : Str) (r : Str × Str × PyData) : Bool := decide (r.1 = k ∧ r.2.1 = n)
abbrev tb (r : Str × Str × PyData) : List Key × W := ([.inr r.1, .inr r.2.1], .d r.2.2)
def bkC (b : Bk) : List (List Key × W) := b.map tb
def bget (b : Bk) (k n : Str) : Option PyData := (b.find? (isB k n)).map (·.2.2)
def bput (b : Bk) (k n : Str) (e : PyData) : Bk := if (b.any (isB k n)) = true then b.map (fun r => if isB k n r = true then (r.1, r.2.1, e) else r) else b ++ [(k, n, e)]
def bdel (b : Bk) (k n : Str) : Bk := b.filter fun r => !isB k n r
abbrev kyB (k n : Str) : List Key := [.inr k, .inr n]
theorem ky_dec (r : Str × Str × PyData) (k n : Str) : decide ((tb r).1 = kyB k n) = isB k n r := by
  refine decide_eq_decide.mpr ?_
  simp [tb, kyB]
theorem valW_bk (b : Bk) (k n : Str) : valW (bkC b) (kyB k n) = (bget b k n).map W.d := by
  unfold valW bkC bget
  rw [List.find?_map]
  have : (fun kv : List Key × W => decide (kv.1 = kyB k n)) ∘ tb = isB k n := funext fun r => ky_dec r k n
  rw [this]
  cases List.find? (isB k n) b <;> rfl
theorem putW_bk (b : Bk) (k n : Str) (e : PyData) : putW (bkC b) (kyB k n) (.d e) = bkC (bput b k n e) := by
  unfold putW bput
  have ha : ((bkC b).any fun kv => decide (kv.1 = kyB k n)) = b.any (isB k n) := by
    unfold bkC
    rw [List.any_map]
    congr 1
    exact funext fun r => ky_dec r k n
  rw [ha]
  split
  · unfold bkC
    rw [List.map_map, List.map_map]
    refine List.map_congr_left fun r hr => ?_
    have := ky_dec r k n
    show (if (tb r).1 = kyB k n then ((tb r).1, W.d e) else tb r) = tb (if isB k n r = true then (r.1, r.2.1, e) else r)
    by_cases z : (tb r).1 = kyB k n
    · rw [if_pos z, if_pos (by rw [← this]; exact decide_eq_true z)]
    · rw [if_neg z, if_neg (by rw [← this]; simp [z])]
  · unfold bkC
    rw [List.map_append]; rfl
theorem dropW_bk (b : Bk) (k n : Str) : dropW (bkC b) (kyB k n) = bkC (bdel b k n) := by
  unfold dropW bkC bdel
  rw [List.filter_map]
  congr 1
  refine List.filter_congr fun r hr => ?_
  rw [← ky_dec r k n]
  show decide ((tb r).1 ≠ kyB k n) = _
  exact decide_not
structure BkOk (ks xs : List Str) (b : Bk) : Prop where
  nd : (b.map fun r => (r.1, r.2.1)).Nodup
  inK : ∀ r ∈ b, r.1 ∈ ks
  inN : ∀ r ∈ b, r.2.1 ∈ xs
  ent : ∀ r ∈ b, EntOk r.2.2
theorem BkOk.nil {ks xs : List Str} : BkOk ks xs [] := ⟨List.nodup_nil, by simp, by simp, by simp⟩
theorem isB_iff {k n : Str} {r : Str × Str × PyData} : isB k n r = true ↔ r.1 = k ∧ r.2.1 = n := decide_eq_true_iff
theorem BkOk.put {ks xs : List Str} {b : Bk} {k n : Str} {e : PyData} (h : BkOk ks xs b) (hk : k ∈ ks) (hn : n ∈ xs) (he : EntOk e) : BkOk ks xs (bput b k n e) := by
  unfold bput
  split
  · have ee : (b.map fun r => if isB k n r = true then (r.1, r.2.1, e) else r).map (fun r => (r.1, r.2.1)) = b.map fun r => (r.1, r.2.1) := by
      rw [List.map_map]
      refine List.map_congr_left fun r hr => ?_
      show ((if isB k n r = true then (r.1, r.2.1, e) else r).1, (if isB k n r = true then (r.1, r.2.1, e) else r).2.1) = _
      split <;> rfl
    refine ⟨by rw [ee]; exact h.nd, fun r hr => ?_, fun r hr => ?_, fun r hr => ?_⟩ <;> obtain ⟨q, hq, rfl⟩ := List.mem_map.mp hr <;> split
    · exact h.inK q hq
    · exact h.inK q hq
    · exact h.inN q hq
    · exact h.inN q hq
    · exact he
    · exact h.ent q hq
  · next z =>
    refine ⟨?_, fun r hr => ?_, fun r hr => ?_, fun r hr => ?_⟩
    · rw [List.map_append, List.nodup_append]
      refine ⟨h.nd, by simp, fun x hx y hy => ?_⟩
      obtain ⟨q, hq, rfl⟩ := List.mem_map.mp hx
      have : y = (k, n) := by simpa using hy
      subst this
      intro e2
      injection e2 with e3 e4
      exact z (List.any_eq_true.mpr ⟨q, hq, isB_iff.mpr ⟨e3, e4⟩⟩)
    all_goals rcases List.mem_append.mp hr with hr | hr
    · exact h.inK r hr
    · rw [List.mem_singleton.mp hr]; exact hk
    · exact h.inN r hr
    · rw [List.mem_singleton.mp hr]; exact hn
    · exact h.ent r hr
    · rw [List.mem_singleton.mp hr]; exact he
theorem bput_len (b : Bk) (k n : Str) (e : PyData) : (bput b k n e).length ≤ b.length + 1 := by
  unfold bput; split <;> simp
theorem BkOk.del {ks xs : List Str} {b : Bk} {k n : Str} (h : BkOk ks xs b) : BkOk ks xs (bdel b k n) :=
  ⟨h.nd.sublist (List.Sublist.map _ List.filter_sublist), fun r hr => h.inK r (List.mem_filter.mp hr).1, fun r hr => h.inN r (List.mem_filter.mp hr).1, fun r hr => h.ent r (List.mem_filter.mp hr).1⟩
theorem bdel_len (b : Bk) (k n : Str) : (bdel b k n).length ≤ b.length := List.length_filter_le _ _
theorem BkOk.perm {ks xs : List Str} {b c : Bk} (h : BkOk ks xs b) (p : c.Perm b) : BkOk ks xs c :=
  ⟨(p.map _).nodup_iff.mpr h.nd, fun r hr => h.inK r (p.mem_iff.mp hr), fun r hr => h.inN r (p.mem_iff.mp hr), fun r hr => h.ent r (p.mem_iff.mp hr)⟩
theorem bget_mem {b : Bk} {k n : Str} {e : PyData} (h : bget b k n = some e) : (k, n, e) ∈ b := by
  unfold bget at h
  cases z : b.find? (isB k n) with
  | none => rw [z] at h; cases h
  | some r =>
    rw [z] at h
    cases h
    have := isB_iff.mp (List.find?_some z)
    obtain ⟨a1, a2, a3⟩ := r
    obtain ⟨rfl, rfl⟩ := this
    exact List.mem_of_find?_eq_some z
theorem bget_of {ks xs : List Str} {b : Bk} {k n : Str} {e : PyData} (h : BkOk ks xs b) (hm : (k, n, e) ∈ b) : bget b k n = some e := by
  cases z : bget b k n with
  | none =>
    unfold bget at z
    rw [Option.map_eq_none_iff, List.find?_eq_none] at z
    exact absurd (isB_iff.mpr ⟨rfl, rfl⟩) (z _ hm)
  | some e2 =>
    have := nodup_map_inj h.nd (bget_mem z) hm rfl
    injection this with _ this
    injection this with _ this
    rw [this]
theorem bget_perm {ks xs : List Str} {b c : Bk} (h : BkOk ks xs b) (p : c.Perm b) (k n : Str) : bget c k n = bget b k n := by
  cases z : bget b k n with
  | some e => exact bget_of (h.perm p) (p.mem_iff.mpr (bget_mem z))
  | none =>
    cases z2 : bget c k n with
    | none => rfl
    | some e =>
      have := bget_of h (p.mem_iff.mp (bget_mem z2))
      rw [z] at this; cases this
/-! #### walking -/
def kTupK (R : DK) : List W → Oh → Prop := fun xs O1 => match keysW xs with
  | some ks => xs.length ≤ 1000 ∧ R (.k ks) O1
  | none => False
instance {ws : DA} {Γ : Gm} {O : Oh} {R : DK} {xe : DX} : Go (dTupK ws Γ O R xe) (ws Γ O (kTupK R) xe) := ⟨fun h => h⟩
instance {O : Oh} {R : DK} {a b : Str} : Go (kTupK R [.d (.str a), .d (.str b)] O) (R (.k (kyB a b)) O) := ⟨fun h => ⟨Nat.le_of_ble_eq_true rfl, h⟩⟩
class BkM (x : W) (O : Oh) (b : outParam Bk) : Prop where
  e : asDt x O = some (bkC b)
  k : asDk x O = none
instance {O : Oh} {j : Nat} {b : Bk} [g : Cl O j (.dct (bkC b))] : BkM (.c j) O b := ⟨by unfold asDt; dsimp only; rw [g.e], by unfold asDk; dsimp only; rw [g.e]⟩
instance {O : Oh} {j : Nat} {od : Obj} {es : List (List Key × V)} {b : Bk} [g : Cl O j (.ldct od es (bkC b))] : BkM (.c j) O b := ⟨by unfold asDt; dsimp only; rw [g.e], by unfold asDk; dsimp only; rw [g.e]⟩
theorem isDict_bk {x : W} {O : Oh} {b : Bk} (g : BkM x O b) : isDictW x O = true := by unfold isDictW; rw [g.e, g.k]; rfl
theorem dGet_bk {x : W} {O : Oh} {b : Bk} {k n : Str} {c : Option W → Prop} (g : BkM x O b) (h : c ((bget b k n).map W.d)) : dGet x (.k (kyB k n)) O c := by
  unfold dGet
  rw [g.k]
  dsimp only
  rw [g.e]
  dsimp only [keyT]
  rw [valW_bk]
  exact h
instance {x : W} {k n : Str} {O : Oh} {R : DK} {b : Bk} [g : BkM x O b] : Go (dIn2 false (.k (kyB k n)) x O R) (R (.d (.bool (bget b k n).isSome)) O) := ⟨fun h => by
  unfold dIn2
  rw [if_pos (isDict_bk g)]
  refine dGet_bk g ?_
  rw [if_neg Bool.false_ne_true, Option.isSome_map]
  exact h⟩
theorem go_ixB {x : W} {k n : Str} {e : PyData} {O : Oh} {R : DK} {b : Bk} [g : BkM x O b] (he : bget b k n = some e) (h : R (.d e) O) : dIx2 x (.k (kyB k n)) O R := by
  unfold dIx2
  rw [if_pos (isDict_bk g)]
  refine dGet_bk g ?_
  rw [he]
  exact h
theorem putix_bk {O O' : Oh} {j : Nat} {b : Bk} {k n : Str} {e : PyData} {c : Oh → Prop} [g : Cl O j (.dct (bkC b))] (hz : b.length < 1000000) [t : St O j (.dct (bkC (bput b k n e))) O'] (h : c O') : dPutIx (.c j) (.k (kyB k n)) (.d e) O c := by
  unfold dPutIx; dsimp only; rw [g.e]; dsimp only [keyT]; rw [putW_bk, t.e]
  exact ⟨by unfold bkC; rw [List.length_map]; exact hz, h⟩
theorem go_popB {O O' : Oh} {j : Nat} {b : Bk} {k n : Str} {e : PyData} {R : DK} [g : Cl O j (.dct (bkC b))] (he : bget b k n = some e) [t : St O j (.dct (bkC (bdel b k n))) O'] (h : R (.d e) O') : dPopK (.c j) [.k (kyB k n)] O R := by
  unfold dPopK; dsimp only; rw [g.e]; dsimp only [keyT]; rw [valW_bk, he]; dsimp only [Option.map_some]; rw [dropW_bk, t.e]
  exact h
/-! #### what a book tells -/
abbrev trD (r : Str × Str × PyData) : PyData := .tuple [.str r.1, .str r.2.1, r.2.2]
abbrev bkD (b : Bk) : PyData := .tuple (b.map trD)
theorem sp_entry_of {b : Bk} {k n : Str} {O : Oh} {R : DK} {xe : Exn → Oh → Prop} (h : R (.d ((bget b k n).getD .none)) O) : w_entry_of [.d (bkD b), .d (.str k), .d (.str n)] O R xe := by
  refine def_start rfl fun m l cl => ?_
  repeat refine Go.h ?_
  refine for_mapD trD (fun rest Γ S => ∃ x y z, Γ = [some (.d (bkD b)), some (.d (.str k)), some (.d (.str n)), x, y, z] ∧ S = O ++ [] ∧ bget rest k n = bget b k n) ⟨_, _, _, rfl, rfl, rfl⟩ ?_ ?_
  · rintro Γ S ⟨x, y, z, rfl, rfl, e⟩
    repeat refine Go.h ?_
    rw [← e] at h
    exact h
  · rintro r rest Γ S ⟨x, y, z, rfl, rfl, e⟩ C hC
    have no : ¬ (r.1 = k ∧ r.2.1 = n) → bget rest k n = bget b k n := fun z => by
      rw [← e]
      unfold bget
      rw [List.find?_cons_of_neg (by rw [isB_iff]; exact z)]
    repeat refine Go.h ?_
    refine dcase (fun z => ?_) (fun z => ?_)
    · repeat refine Go.h ?_
      refine dcase (fun z2 => ?_) (fun z2 => ?_)
      · repeat refine Go.h ?_
        have : bget b k n = some r.2.2 := by
          rw [← e]
          unfold bget
          rw [List.find?_cons_of_pos (by rw [isB_iff]; exact ⟨z, z2⟩)]; rfl
        rw [this] at h
        exact h
      · repeat refine Go.h ?_
        exact hC _ _ ⟨_, _, _, rfl, rfl, no fun q => z2 q.2⟩
    · repeat refine Go.h ?_
      exact hC _ _ ⟨_, _, _, rfl, rfl, no fun q => z q.1⟩
end Dl
namespace Dl
open PySem PySem.Spec PyProof.Rows L2
/-! ### families and books as tuples -/
theorem sp_family_tuple {fam : List Kd} {xs : List Str} (hx : xs.length ≤ 100) {O : Oh} {R : DK} {xe : Exn → Oh → Prop} (h : R (.d (fmD fam (srtS xs))) O) : w__law_family_tuple [.d (.dict (kvD (fun s => lS (OwF fam s)) xs))] O R xe := by
  refine def_start rfl fun m l cl => ?_
  repeat refine Go.h ?_
  refine lc_all PyData.str (prD fam) trivial (by omega) (fun s hs C hC => ?_) ?_
  · repeat refine Go.h ?_
    refine go_ixK (f := fun s => .d (lS (OwF fam s))) (σ := xs) hs ?_
    repeat refine Go.h ?_
    exact hC
  repeat refine Go.h ?_
  refine go_sortedP ?_
  rw [srtD_pr]
  repeat refine Go.h ?_
  exact h
theorem lc_en {α : Type} {en : α → W} {xs : List α} {t : Tg} {tt : DT} {we : DEx} {Γ : Gm} {fin : List PyData → Oh → Prop} {O : Oh} {ok : Oh → Prop} (hok : ok O) (p : α → Bool) (g : α → PyData) (hz : xs.length ≤ 1000000)
    (h2 : ∀ q ∈ xs, ∀ (C : DK) (N : Oh → Prop), (p q = true → C (.d (g q)) O) → (p q = false → N O) → t.put (en q) Γ fun Γ' => tt Γ' O (kLcT we Γ' C N) X0)
    (h : fin ((xs.filter p).map g) O) : lcGo ok t tt we Γ fin (xs.map en) [] O := by
  refine lc_rule (fun q acc O' => ∃ rest : List α, q = rest.map en ∧ O' = O ∧ (∀ s ∈ rest, s ∈ xs) ∧ acc.length + rest.length ≤ 1000000 ∧ acc ++ (rest.filter p).map g = (xs.filter p).map g) ⟨xs, rfl, rfl, fun _ h => h, by simpa using hz, rfl⟩ ?_ ?_
  · rintro acc O' ⟨rest, e0, rfl, _, _, e⟩
    cases rest with
    | cons s rest => cases e0
    | nil =>
      simp only [List.filter_nil, List.map_nil, List.append_nil] at e
      subst e
      exact ⟨hok, h⟩
  · rintro x q acc O' ⟨rest, e0, rfl, hm, hl, e⟩
    cases rest with
    | nil => cases e0
    | cons s rest =>
      rw [List.map_cons] at e0
      injection e0 with e1 e2
      subst e1 e2
      refine ⟨hok, fun C N hC hN => ?_⟩
      rw [List.length_cons] at hl
      refine h2 s (hm s List.mem_cons_self) C N (fun z => ?_) (fun z => ?_)
      · refine hC _ _ (by omega) ⟨rest, rfl, rfl, fun w hw => hm w (List.mem_cons_of_mem _ hw), by simp; omega, ?_⟩
        rw [List.filter_cons_of_pos z, List.map_cons] at e
        rw [← e]; simp
      · rw [List.filter_cons_of_neg (by rw [z]; exact Bool.false_ne_true)] at e
        exact hN _ ⟨rest, rfl, rfl, fun w hw => hm w (List.mem_cons_of_mem _ hw), by omega, e⟩
theorem put_key {a b : Str} {Γ Γ1 Γ2 : Gm} {i j : Nat} {R : Gm → Prop} [g1 : Put Γ i (some (.d (.str a))) Γ1] [g2 : Put Γ1 j (some (.d (.str b))) Γ2] (h : R Γ2) : (Tg.tup [.nm i, .nm j]).put (.k (kyB a b)) Γ R := by
  show R ((Γ.set i (some (.d (.str a)))).set j (some (.d (.str b))))
  rw [g1.e, g2.e]; exact h
instance {a b : Str} {Γ Γ1 Γ2 : Gm} {i j : Nat} {R : Gm → Prop} [g1 : Put Γ i (some (.d (.str a))) Γ1] [g2 : Put Γ1 j (some (.d (.str b))) Γ2] : Go ((Tg.tup [.nm i, .nm j]).put (.k (kyB a b)) Γ R) (R Γ2) := ⟨put_key⟩
def kKeysT (S : List W → (Oh → Prop) → Oh → Prop) : DK := fun r O1 => match r with
  | .c j => (match O1[j]? with
    | some (.ldct od es kvs) => (kvs.all fun kv => kv.1.all keyOk) = true ∧ S (kvs.map fun kv => W.k kv.1) (fun O => O[j]? = some (.ldct od es kvs)) O1
    | _ => False)
  | _ => False
instance {w : DEx} {Γ : Gm} {O : Oh} {S : List W → (Oh → Prop) → Oh → Prop} {xe : DX} : Go (dKeysT w Γ O S xe) (w Γ O (kKeysT S) xe) := ⟨fun h => h⟩
abbrev enB (r : Str × Str × PyData) : W := .k (kyB r.1 r.2.1)
theorem bk_keys {ks xs : List Str} {b : Bk} (hb : BkOk ks xs b) (ok : ∀ s ∈ ks, OkS s) (ox : ∀ s ∈ xs, OkS s) : ((bkC b).all fun kv => kv.1.all keyOk) = true := by
  rw [List.all_eq_true]
  intro kv h
  obtain ⟨r, hr, rfl⟩ := List.mem_map.mp h
  have e1 := kvM_keys (f := fun _ => .d .none) (σ := [r.1]) (by simpa using ok _ (hb.inK r hr))
  have e2 := kvM_keys (f := fun _ => .d .none) (σ := [r.2.1]) (by simpa using ox _ (hb.inN r hr))
  simp [kvM] at e1 e2
  simp [tb, e1, e2]
theorem go_keysB {j : Nat} {od : Obj} {es : List (List Key × V)} {b : Bk} {O : Oh} {S : List W → (Oh → Prop) → Oh → Prop} {ks xs : List Str} (hb : BkOk ks xs b) (ok : ∀ s ∈ ks, OkS s) (ox : ∀ s ∈ xs, OkS s) [g : Cl O j (.ldct od es (bkC b))]
    (h : S (b.map enB) (fun O => O[j]? = some (.ldct od es (bkC b))) O) : kKeysT S (.c j) O := by
  unfold kKeysT; dsimp only; rw [g.e]
  refine ⟨bk_keys hb ok ox, ?_⟩
  have : (bkC b).map (fun kv => W.k kv.1) = b.map enB := by unfold bkC; rw [List.map_map]; rfl
  rw [this]; exact h
def kLck (j : Nat) (od : Obj) (es : List (List Key × V)) (b : Bk) (R : DK) : DK := fun r O' => O'[j]? = some (.ldct od es (bkC b)) ∧ R r (O'.set j (.dct (bkC b)))
theorem set_back {j : Nat} {O : Oh} {c d : Cell} (hj : O[j]? = some c) : (O.set j d).set j c = O := by
  have lt := (List.getElem?_eq_some_iff.mp hj).1
  rw [List.set_set]
  refine List.ext_getElem? fun m => ?_
  by_cases z : j = m
  · subst z; rw [List.getElem?_set_self lt, hj]
  · rw [List.getElem?_set_ne z]
theorem go_lckB {i j : Nat} {Γ : Gm} {O : Oh} {we : DEx} {b : Bk} {R : DK} {xe : DX} (hi : Γ[i]? = some (some (.c j))) (hj : O[j]? = some (.dct (bkC b)))
    (h : ∀ od es O1, Cl O1 j (.ldct od es (bkC b)) → O1.set j (.dct (bkC b)) = O → we Γ O1 (kLck j od es b R) X0) : dLck i we Γ O R xe := by
  unfold dLck
  rw [hi]; dsimp only; rw [hj]; dsimp only
  have lt := (List.getElem?_eq_some_iff.mp hj).1
  exact fun od es => h od es _ ⟨List.getElem?_set_self lt⟩ (set_back hj)
theorem out_lckB {j : Nat} {od : Obj} {es : List (List Key × V)} {b : Bk} {O O1 : Oh} {R : DK} {r : W} (c : Cl O1 j (.ldct od es (bkC b))) (e : O1.set j (.dct (bkC b)) = O) (h : R r O) : kLck j od es b R r O1 := ⟨c.e, by rw [e]; exact h⟩
/-- its triples, in order -/
def leR (r q : Str × Str × PyData) : Bool := le2 (trD r) (trD q)
def srtB (b : Bk) : Bk := b.mergeSort leR
theorem srtB_perm (b : Bk) : (srtB b).Perm b := List.mergeSort_perm _ _
theorem srt2_bk (b : Bk) : srt2 (b.map trD) = (srtB b).map trD := by
  unfold srt2 srtB
  exact (List.map_mergeSort (r := leR) (s := le2) (f := trD) fun a _ c _ => rfl).symm
theorem twoB_bk {ks xs : List Str} {b : Bk} (hb : BkOk ks xs b) : twoB (b.map trD) := by
  have sh : ∀ r ∈ b, shp 40 (trD r) = true := fun r hr => by
    obtain ⟨es, e, h⟩ := hb.ent r hr
    show ([PyData.str r.1, .str r.2.1, r.2.2] : List PyData).all (shp 39) = true
    have := shp_le (m := 4) (n := 39) (by omega) h
    rw [List.all_cons, List.all_cons, List.all_cons, this]; rfl
  refine ⟨fun d hd => ?_, ?_, fun d hd => ?_, ?_⟩
  · obtain ⟨r, hr, rfl⟩ := List.mem_map.mp hd
    rfl
  · have : (b.map trD).map hd2 = (b.map fun r => (r.1, r.2.1)).map some := by
      rw [List.map_map, List.map_map]; rfl
    rw [this]
    exact List.Pairwise.map some (fun a b h z => h (Option.some.inj z)) hb.nd
  · obtain ⟨r, hr, rfl⟩ := List.mem_map.mp hd
    exact alike_refl 40 _ (sh r hr)
  · rw [List.all_eq_true]
    intro d hd
    obtain ⟨r, hr, rfl⟩ := List.mem_map.mp hd
    exact sh r hr
theorem go_sortT {R : DK} {O : Oh} {ds : List PyData} (hb : twoB ds) (h : R (.d (.list (srt2 ds))) O) : dSortT [.d (.list ds)] O R := by
  unfold dSortT
  show (match datas (ds.map W.d) with | some ds => twoB ds ∧ R (.d (.list (srt2 ds))) O | none => False)
  rw [datas_map]
  exact ⟨hb, h⟩
theorem sp_book_tuple {ks xs : List Str} {b : Bk} (hb : BkOk ks xs b) (ok : ∀ s ∈ ks, OkS s) (ox : ∀ s ∈ xs, OkS s) (hz : b.length ≤ 1000) {j : Nat} {O : Oh} {R : DK} {xe : Exn → Oh → Prop} (hj : O[j]? = some (.dct (bkC b))) (h : R (.d (bkD (srtB b))) O) : w__law_book_tuple [.c j] O R xe := by
  refine def_start rfl fun m l cl => ?_
  repeat (fail_if_success with_reducible show dLck _ _ _ _ _ _); refine Go.h ?_
  refine go_lckB rfl (by rw [List.append_nil]; exact hj) fun od es O1 c e => ?_
  repeat refine Go.h ?_
  refine go_keysB hb ok ox ?_
  repeat refine Go.h ?_
  refine lc_en (p := fun _ => true) (g := trD) c.e (by omega) (fun r hr C N hC hN => ?_) ?_
  · repeat refine Go.h ?_
    refine go_ixB (bget_of hb hr) ?_
    repeat refine Go.h ?_
    exact hC rfl
  refine out_lckB c e ?_
  rw [List.filter_eq_self.mpr fun _ _ => rfl]
  repeat refine Go.h ?_
  refine go_sortT (twoB_bk hb) ?_
  rw [srt2_bk]
  repeat refine Go.h ?_
  exact h
end Dl
namespace Dl
open PySem PySem.Spec PyProof.Rows L2
/-! ### books, drawn -/
instance {n : Nat} {b : Bk} : CLt n (.dct (bkC b)) := ⟨by
  show (bkC b).all (fun p => p.2.lt n) = true
  rw [List.all_eq_true]
  intro p hp
  obtain ⟨r, _, rfl⟩ := List.mem_map.mp hp
  rfl⟩
end Dl
namespace Dl
open PySem PySem.Spec PyProof.Rows L2
/-! ### what is handled, gone through -/
def kIsX (nm D : Str) (q : Addr) (d : Option Addr) (R : DK) : DK := fun x O1 => match x with
  | .o b d' fs => b = q ∧ d' = d ∧ R (.d (.bool (nm == D))) O1
  | _ => False
instance {nm D : Str} {q : Addr} {d : Option Addr} {we : DEx} {Γ : Gm} {O : Oh} {R : DK} {xe : DX} : Go (dIsX nm D q d we Γ O R xe) (we Γ O (kIsX nm D q d R) xe) := ⟨fun h => h⟩
instance {nm D : Str} {q : Addr} {d : Option Addr} {fs : List (Str × PyData)} {O : Oh} {R : DK} : Go (kIsX nm D q d R (.o q d fs) O) (R (.d (.bool (nm == D))) O) := ⟨fun h => ⟨rfl, rfl, h⟩⟩
def kIsXT (nm : Str) (Ds : List Str) (q : Addr) (d : Option Addr) (R : DK) : DK := fun x O1 => match x with
  | .o b d' fs => b = q ∧ d' = d ∧ R (.d (.bool (Ds.contains nm))) O1
  | _ => False
instance {nm : Str} {Ds : List Str} {q : Addr} {d : Option Addr} {we : DEx} {Γ : Gm} {O : Oh} {R : DK} {xe : DX} : Go (dIsXT nm Ds q d we Γ O R xe) (we Γ O (kIsXT nm Ds q d R) xe) := ⟨fun h => h⟩
instance {nm : Str} {Ds : List Str} {q : Addr} {d : Option Addr} {fs : List (Str × PyData)} {O : Oh} {R : DK} : Go (kIsXT nm Ds q d R (.o q d fs) O) (R (.d (.bool (Ds.contains nm))) O) := ⟨fun h => ⟨rfl, rfl, h⟩⟩
def kIsV (q : Addr) (d : Option Addr) (R : DK) : DK := fun x O1 => match x with
  | .o b d' fs => b = q ∧ d' = d ∧ R (.d (.bool true)) O1
  | _ => False
instance {q : Addr} {d : Option Addr} {we : DEx} {Γ : Gm} {O : Oh} {R : DK} {xe : DX} : Go (dIsV q d we Γ O R xe) (we Γ O (kIsV q d R) xe) := ⟨fun h => h⟩
instance {q : Addr} {d : Option Addr} {fs : List (Str × PyData)} {O : Oh} {R : DK} : Go (kIsV q d R (.o q d fs) O) (R (.d (.bool true)) O) := ⟨fun h => ⟨rfl, rfl, h⟩⟩
/-! #### texts cut, places of lists -/
/-! #### tries of several clauses -/
instance {hs : List HK} {tb te : DSt} {D : DEnds} {xe : DX} {Γ : Gm} {O : Oh} : Go (dTryK hs tb te D xe Γ O) (tb { D with nx := te D xe } (dHs hs D xe) Γ O) := ⟨fun h => h⟩
instance {i : Nat} {Γ Γ' : Gm} {D : DEnds} {O : Oh} [p : Put Γ i none Γ'] : Go ((endsK (some i) D).nx Γ O) (D.nx Γ' O) := ⟨fun h => by show D.nx (Γ.set i none) O; rw [p.e]; exact h⟩
instance {Γ : Gm} {D : DEnds} {O : Oh} : Go ((endsK none D).nx Γ O) (D.nx Γ O) := ⟨fun h => h⟩
/-! #### zip of lists, filtered -/
def kZipL (S : List W → (Oh → Prop) → Oh → Prop) : List W → Oh → Prop := fun xs O1 => match xs with
  | [x, y] => match snapW x O1, snapW y O1 with
    | some (ds, ok), some (es, ok') => S (zipW ds es) (fun O => ok O ∧ ok' O) O1
    | _, _ => False
  | _ => False
instance {ws : DA} {Γ : Gm} {O : Oh} {S : List W → (Oh → Prop) → Oh → Prop} {xe : DX} : Go (dZipL ws Γ O S xe) (ws Γ O (kZipL S) xe) := ⟨fun h => h⟩
theorem go_zipLs {x y : W} {O : Oh} {ds es : List PyData} {ok ok' : Oh → Prop} {S : List W → (Oh → Prop) → Oh → Prop} (h1 : snapW x O = some (ds, ok)) (h2 : snapW y O = some (es, ok')) (h : S (zipW ds es) (fun O => ok O ∧ ok' O) O) : kZipL S [x, y] O := by
  unfold kZipL
  dsimp only
  rw [h1, h2]
  exact h
theorem snap_cell {k : Nat} {O : Oh} {ws : List W} {ds : List PyData} (e : O[k]? = some (.lst ws)) (h : datas ws = some ds) : snapW (.c k) O = some (ds, fun O' => O'[k]? = some (.lst ws)) := by
  unfold snapW
  dsimp only
  rw [e]
  dsimp only
  rw [h]
end Dl
namespace Dl
open PySem PySem.Spec PyProof.Rows L2
/-! ### instances: fields, methods, making, gone through -/
class Lk (fs : List (Str × W)) (f : Str) (v : outParam W) : Prop where
  e : fs.lookup f = some v
class NoLk (fs : List (Str × W)) (f : Str) : Prop where
  e : fs.lookup f = none
def kFld (C f : Str) (R : DK) : DK := fun x O1 => match x with
  | .c j => (match O1[j]? with
    | some (.ins C' fs) => (match fs.lookup f with
      | some v => C' = C ∧ R v O1
      | none => False)
    | _ => False)
  | _ => False
instance {C f : Str} {w : DEx} {Γ : Gm} {O : Oh} {R : DK} {xe : DX} : Go (dFld C f w Γ O R xe) (w Γ O (kFld C f R) xe) := ⟨fun h => h⟩
instance {C f : Str} {O : Oh} {R : DK} {j : Nat} {fs : List (Str × W)} {v : W} [g : Cl O j (.ins C fs)] [l : Lk fs f v] : Go (kFld C f R (.c j) O) (R v O) := ⟨fun h => by
  unfold kFld; dsimp only; rw [g.e]; dsimp only; rw [l.e]; exact ⟨rfl, h⟩⟩
def kSetF2 (C f : Str) (y : W) (k : Gm → Oh → Prop) (Γ : Gm) : DK := fun x O2 => match x with
  | .c j => (match O2[j]? with
    | some (.ins C' fs) => C' = C ∧ fs.length < 1000 ∧ k Γ (O2.set j (.ins C (putFW f y fs)))
    | _ => False)
  | _ => False
def kSetF1 (C f : Str) (wa : DEx) (k : Gm → Oh → Prop) (xe : DX) (Γ : Gm) : DK := fun y O1 => wa Γ O1 (kSetF2 C f y k Γ) xe
instance {f b c : Gm → Oh → Prop} {r : DK} {Γ : Gm} {O : Oh} {xe : DX} {C n : Str} {wa wv : DEx} : Go (dSetF C n wa wv ⟨f, r, b, c⟩ xe Γ O) (wv Γ O (kSetF1 C n wa f xe Γ) xe) := ⟨fun h => h⟩
instance {f : Gm → Oh → Prop} {Γ : Gm} {O : Oh} {xe : DX} {C n : Str} {wa : DEx} {y : W} : Go (kSetF1 C n wa f xe Γ y O) (wa Γ O (kSetF2 C n y f Γ) xe) := ⟨fun h => h⟩
def kMeth2 (f : DFn) (j : Nat) (Γ : Gm) (R : DK) (xe : DX) : List W → Oh → Prop := fun vs O2 => f (.c j :: vs) O2 R fun ex O3 => xe ex Γ O3
def kMeth (C m : Str) (f : DFn) (ws : DA) (Γ : Gm) (R : DK) (xe : DX) : DK := fun x O1 => match x with
  | .c j => (match O1[j]? with
    | some (.ins C' fs) => (match fs.lookup m with
      | some _ => False
      | none => C' = C ∧ ws Γ O1 (fun vs O2 => f (.c j :: vs) O2 R fun ex O3 => xe ex Γ O3) xe)
    | _ => False)
  | _ => False
instance {C m : Str} {f : DFn} {wa : DEx} {ws : DA} {Γ : Gm} {O : Oh} {R : DK} {xe : DX} : Go (dMeth C m f wa ws Γ O R xe) (wa Γ O (kMeth C m f ws Γ R xe) xe) := ⟨fun h => h⟩
instance {C m : Str} {f : DFn} {ws : DA} {Γ : Gm} {O : Oh} {R : DK} {xe : DX} {j : Nat} {fs : List (Str × W)} [g : Cl O j (.ins C fs)] [l : NoLk fs m] : Go (kMeth C m f ws Γ R xe (.c j) O) (ws Γ O (kMeth2 f j Γ R xe) xe) := ⟨fun h => by
  unfold kMeth; dsimp only; rw [g.e]; dsimp only; rw [l.e]; exact ⟨rfl, h⟩⟩
instance {f : DFn} {j : Nat} {Γ : Gm} {R : DK} {xe : DX} {vs : List W} {O : Oh} : Go (kMeth2 f j Γ R xe vs O) (f (.c j :: vs) O R fun ex O3 => xe ex Γ O3) := ⟨fun h => h⟩
def kMade (j : Nat) (R : DK) : DK := fun r O2 => match r with
  | .d .none => R (.c j) O2
  | _ => False
instance {j : Nat} {R : DK} {O : Oh} : Go (kMade j R (.d .none) O) (R (.c j) O) := ⟨fun h => h⟩
def kMake (C : Str) (f : DFn) (Γ : Gm) (R : DK) (xe : DX) : List W → Oh → Prop := fun vs O1 => f (.c O1.length :: vs) (O1 ++ [.ins C []]) (kMade O1.length R) fun ex O2 => xe ex Γ O2
instance {C : Str} {f : DFn} {ws : DA} {Γ : Gm} {O : Oh} {R : DK} {xe : DX} : Go (dMake C f ws Γ O R xe) (ws Γ O (kMake C f Γ R xe) xe) := ⟨fun h => h⟩
instance {C : Str} {f : DFn} {Γ : Gm} {R : DK} {xe : DX} {vs : List W} {O O' : Oh} {j : Nat} [n : Nw O (.ins C []) j O'] : Go (kMake C f Γ R xe vs O) (f (.c j :: vs) O' (kMade j R) fun ex O2 => xe ex Γ O2) := ⟨fun h => by
  unfold kMake; rw [n.e.1, n.e.2]; exact h⟩
instance (priority := low) {O L : Oh} {n : Nat} {c : Cell} [l : Len O n] : Cl (O ++ (c :: L)) n c := ⟨by rw [← l.e, List.getElem?_append_right (Nat.le_refl _), Nat.sub_self]; rfl⟩
instance (priority := low) {O L : Oh} {n : Nat} {c0 c1 : Cell} [l : Len O n] : St (O ++ (c0 :: L)) n c1 (O ++ (c1 :: L)) := ⟨by rw [← l.e, List.set_append_right _ _ (Nat.le_refl _), Nat.sub_self]; rfl⟩
/-! #### a method: the cells of its instance are at the end of the store -/
class Tk (L : List Cell) (k : Nat) (L' : outParam (List Cell)) : Prop where
  e : L.take k = L'
instance {L : List Cell} : Tk L 0 [] := ⟨rfl⟩
instance {c : Cell} {L L' : List Cell} {k : Nat} [h : Tk L k L'] : Tk (c :: L) (k + 1) (c :: L') := ⟨by rw [List.take_succ_cons, h.e]⟩
class CloL (n : Nat) (L : List Cell) : Prop where
  e : L.all (Cell.lt n) = true
theorem finL_go {B L L' : Oh} {n k : Nat} {K : Oh → Prop} (l : Len B n) (c : CloC (n + k) B) (t : Tk L k L') (q : CloL (n + k) L') (h : K (B ++ L')) : Fin (n + k) (B ++ L) K := by
  have e : (B ++ L).take (n + k) = B ++ L' := by rw [← l.e, List.take_append, List.take_of_length_le (Nat.le_add_right _ _), Nat.add_sub_cancel_left, t.e]
  refine .inr ?_
  rw [e]
  refine ⟨?_, h⟩
  unfold Clo
  rw [List.all_append, Bool.and_eq_true]
  exact ⟨c.e, q.e⟩
instance {B L L' : Oh} {n k : Nat} {K : Oh → Prop} [l : Len B n] [c : CloC (n + k) B] [t : Tk L k L'] [q : CloL (n + k) L'] : Go (Fin (n + k) (B ++ L) K) (K (B ++ L')) := ⟨finL_go l c t q⟩
instance {B L L' : Oh} {n k : Nat} {R : DK} {x : PyData} [l : Len B n] [c : CloC (n + k) B] [t : Tk L k L'] [q : CloL (n + k) L'] : Go (dAns (n + k) R (.d x) (B ++ L)) (R (.d x) (B ++ L')) := ⟨finL_go (K := R (.d x)) l c t q⟩
/-! #### range(3, ..) -/
def kRng2 (S : List W → (Oh → Prop) → Oh → Prop) : List W → Oh → Prop := fun vs O1 => match vs with
  | [.d (.int i), .d (.int j)] => (i < 4611686018427387904 ∧ -4611686018427387904 ≤ i ∧ j < 4611686018427387904 ∧ -4611686018427387904 ≤ j) ∧ S (rgW i (j - i).toNat) (fun _ => True) O1
  | _ => False
instance {ws : DA} {Γ : Gm} {O : Oh} {S : List W → (Oh → Prop) → Oh → Prop} {xe : DX} : Go (dRng2 ws Γ O S xe) (ws Γ O (kRng2 S) xe) := ⟨fun h => h⟩
end Dl
namespace Dl
open PySem PySem.Spec PyProof.Rows L2
/-! ### what the laws of books have in common -/
theorem go_rng2 {S : List W → (Oh → Prop) → Oh → Prop} {O : Oh} {j : Int} (h1 : j ≤ 1000) (h2 : 0 ≤ j) (h : S (((List.range' 1 (j - 1).toNat).map fun k => PyData.int (k : Nat)).map W.d) (fun _ => True) O) : kRng2 S [.d (.int 1), .d (.int j)] O := by
  refine ⟨⟨by decide, by decide, by omega, by omega⟩, ?_⟩
  have := rgW_map 1 (j - 1).toNat
  rw [show ((1 : Nat) : Int) = 1 from rfl] at this
  rw [this]
  exact h
theorem lo_hiN (m q : Int) (hm : 0 ≤ m) (hq : 0 ≤ q) : (if m < q then m else q) ≤ m ∧ 0 ≤ (if m < q then m else q) := by
  split <;> omega
theorem NamesD.sub {xs ys : List Str} {m : Nat} (h : NamesD xs m) (p : ys.Sublist xs) : NamesD ys ys.length :=
  ⟨h.nd.sublist p, fun s hs => h.ok s (p.subset hs), rfl, fun s hs => h.low s (p.subset hs)⟩
instance {R : DK} {O : Oh} {b : Bool} : Go (dIntB [.d (.bool b)] O R) (R (.d (.int (if b then 1 else 0))) O) := ⟨fun h => h⟩
theorem shp_bk {ks xs : List Str} {b : Bk} (hb : BkOk ks xs b) : shp 39 (bkD b) = true := by
  show (b.map trD).all (shp 38) = true
  rw [List.all_eq_true]
  intro d hd
  obtain ⟨r, hr, rfl⟩ := List.mem_map.mp hd
  obtain ⟨es, e, h⟩ := hb.ent r hr
  show ([PyData.str r.1, .str r.2.1, r.2.2] : List PyData).all (shp 37) = true
  rw [List.all_cons, List.all_cons, List.all_cons, shp_le (m := 4) (n := 37) (by omega) h]
  rfl
theorem zipW_more {α : Type} {fA fV : α → PyData} {x : PyData} : ∀ h : List α, zipW (h.map fA ++ [x]) (h.map fV) = h.map fun r => W.p [fA r, fV r]
  | [] => rfl
  | r :: h => by
    show W.p [fA r, fV r] :: zipW (h.map fA ++ [x]) (h.map fV) = _
    rw [zipW_more h]
    rfl
end Dl
namespace Dl
open PySem PySem.Spec PyProof.Rows L2
/-! ### things whose texts and rows are not long, whose dicts are empty -/
def sm : PyData → Bool
  | .str s => decide (s.length ≤ 1000)
  | .dict kvs => kvs.isEmpty
  | _ => true
/-- an item of parents; a part of a pair; a pair; a family; none of them needs to be one -/
def gI (d : PyData) : Bool := sm d && oE d
def gP : PyData → Bool
  | .tuple ds => decide (ds.length ≤ 1000) && ds.all gI
  | d => sm d
theorem sm_dict {kvs : List (PyData × PyData)} (h : sm (.dict kvs) = true) : kvs = [] := by
  cases kvs with
  | nil => rfl
  | cons a b => cases h
theorem sm_str {s : Str} (h : sm (.str s) = true) : s.length ≤ 1000 := of_decide_eq_true h
/-! ### names -/
abbrev LET : Str := "abcdefghijklmnopqrstuvwxyz"
def nmB (s : Str) : Bool := if 1 ≤ s.length ∧ s.length ≤ 8 then (chS s).all (fun z => strIn z LET) else false
def nmD : PyData → Bool
  | .str s => nmB s
  | _ => false
theorem nmB_off {s : Str} (h : ¬ (1 ≤ s.length ∧ s.length ≤ 8)) : nmB s = false := if_neg h
theorem nmB_on {s : Str} (h : 1 ≤ s.length ∧ s.length ≤ 8) : nmB s = (chS s).all (fun z => strIn z LET) := if_pos h
theorem sp_nameS {s : Str} (hz : s.length ≤ 1000) {O : Oh} {R : DK} {xe : Exn → Oh → Prop} (k : R (.d (.bool (nmB s))) O) : w_is_name [.d (.str s)] O R xe := by
  refine def_start rfl fun n l cl => ?_
  repeat refine Go.h ?_
  refine go_lenS (by omega) ?_
  repeat refine Go.h ?_
  by_cases h1 : 1 ≤ s.length
  · rw [decide_eq_true (by omega)]
    repeat refine Go.h ?_
    by_cases h2 : s.length ≤ 8
    · rw [decide_eq_true (by omega)]
      repeat refine Go.h ?_
      refine lc_all PyData.str (fun z => .bool (strIn z LET)) trivial (by rw [chS_len]; show s.length ≤ _; omega) (fun z hz C hC => ?_) ?_
      · repeat refine Go.h ?_
        refine go_inStr ?_
        rw [if_neg Bool.false_ne_true]
        exact hC
      repeat refine Go.h ?_
      have e : ((chS s).map fun z => strIn z LET).all id = nmB s := by rw [nmB_on ⟨h1, h2⟩, List.all_map]; rfl
      rw [e]
      repeat refine Go.h ?_
      exact k
    · rw [decide_eq_false (by omega)]
      repeat refine Go.h ?_
      rw [nmB_off (fun h => h2 h.2)] at k
      exact k
  · rw [decide_eq_false (by omega)]
    repeat refine Go.h ?_
    rw [nmB_off (fun h => h1 h.1)] at k
    exact k
theorem sp_nameG {d : PyData} (hd : sm d = true) {O : Oh} {R : DK} {xe : Exn → Oh → Prop} (k : R (.d (.bool (nmD d))) O) : w_is_name [.d d] O R xe := by
  cases d with
  | str s => exact sp_nameS (sm_str hd) k
  | dict kvs =>
    cases sm_dict hd
    refine def_start rfl fun n l cl => ?_
    repeat refine Go.h ?_
    exact k
  | _ =>
    refine def_start rfl fun n l cl => ?_
    repeat refine Go.h ?_
    exact k
end Dl
namespace Dl
open PySem PySem.Spec PyProof.Rows L2
/-! ### pairs, parents, kinds of anything -/
theorem lc_W {i : Nat} {we : DEx} {Γ : Gm} {fin : List PyData → Oh → Prop} {ds : List PyData} {O : Oh} {ok : Oh → Prop} (g : PyData → PyData) (hok : ok O) (hz : ds.length ≤ 1000000)
    (h2 : ∀ x ∈ ds, ∀ C : DK, C (.d (g x)) O → (Tg.nm i).put (.d x) Γ fun Γ' => we Γ' O C X0)
    (h : fin (ds.map g) O) : lcGo ok (.nm i) dYes we Γ fin (ds.map W.d) [] O :=
  lc_map W.d (fun _ => true) g hok hz (fun x _ C hC => by unfold Tg.put; exact hC) (fun x hx _ => h2 x hx) (by rw [List.filter_eq_self.mpr (fun _ _ => rfl)]; exact h)
/-! #### parents -/
def inB (ks : List Str) : PyData → Bool
  | .str s => decide (s ∈ ks)
  | _ => false
theorem any_no {ks : List Str} {d : PyData} (h : ∀ s, d ≠ .str s) : ((sD ks).any fun z => PyData.eqv z d) = false := by
  rw [List.any_eq_false]
  intro z hz
  obtain ⟨s, _, rfl⟩ := List.mem_map.mp hz
  cases d with
  | str t => exact absurd rfl (h t)
  | _ => simp [PyData.eqv]
theorem shp_leG : ∀ {n m : Nat} {d : PyData}, n ≤ m → shp n d = true → shp m d = true
  | _, _, .none, _, _ => by unfold shp; rfl
  | _, _, .bool _, _, _ => by unfold shp; rfl
  | _, _, .int _, _, _ => by unfold shp; rfl
  | _, _, .str _, _, _ => by unfold shp; rfl
  | 0, _, .list _, _, h => by cases h
  | 0, _, .tuple _, _, h => by cases h
  | n + 1, m, .list ds, hm, h => by
    obtain ⟨m, rfl⟩ : ∃ k, m = k + 1 := ⟨m - 1, by omega⟩
    have h : ds.all (shp n) = true := h
    show ds.all (shp m) = true
    rw [List.all_eq_true] at h ⊢
    exact fun d hd => shp_leG (by omega) (h d hd)
  | n + 1, m, .tuple ds, hm, h => by
    obtain ⟨m, rfl⟩ : ∃ k, m = k + 1 := ⟨m - 1, by omega⟩
    have h : ds.all (shp n) = true := h
    show ds.all (shp m) = true
    rw [List.all_eq_true] at h ⊢
    exact fun d hd => shp_leG (by omega) (h d hd)
  | 0, _, .dict _, _, h => by cases h
  | _ + 1, _, .dict _, _, h => by cases h
end Dl
namespace Dl
open PySem PySem.Spec PyProof.Rows L2
/-! ### the lines of any pairs, turn by turn, or the first kind whose rows no order keeps -/
abbrev Ls := List Str × (Str → List Str)
abbrev Fm := List (Str × List Str)
abbrev st0 : Ls := ([], fun _ => [])
structure FamR (f : Fm) : Prop where
  few : f.length ≤ 8
  ok : ∀ p ∈ f, OkS p.1 ∧ p.2.Nodup ∧ p.2.length ≤ 4
structure LsOk (f : Fm) (st : Ls) : Prop where
  nd : st.1.Nodup
  sub : ∀ s ∈ st.1, s ∈ f.map Prod.fst
  row : ∀ s ∈ st.1, (st.2 s).Nodup ∧ ∀ t ∈ st.2 s, t ∈ st.1
theorem LsOk.nil {f : Fm} : LsOk f st0 := ⟨List.nodup_nil, fun _ h => (nomatch h), fun _ h => (nomatch h)⟩
theorem LsOk.len {f : Fm} {st : Ls} (g : FamR f) (h : LsOk f st) : st.1.length ≤ 8 := by
  have := nodup_sub_len h.nd h.sub
  rw [List.length_map] at this
  have := g.few
  omega
theorem FamR.okS {f : Fm} (g : FamR f) {s : Str} (h : s ∈ f.map Prod.fst) : OkS s := by
  obtain ⟨p, hp, rfl⟩ := List.mem_map.mp h
  exact (g.ok p hp).1
theorem LsOk.good {f : Fm} {st : Ls} (g : FamR f) (h : LsOk f st) {own : List Str} (h2 : own.Nodup) (h3 : own.length ≤ 4) (h4 : ∀ s ∈ own, s ∈ st.1) : GoodR (rowsOf st.2 own) := by
  refine ⟨by unfold rowsOf; simp; omega, fun r hr => ?_⟩
  have key : r.Nodup ∧ ∀ t ∈ r, t ∈ st.1 := by
    unfold rowsOf at hr
    rcases List.mem_append.mp hr with hr | hr
    · obtain ⟨q, hq, rfl⟩ := List.mem_map.mp hr
      exact h.row q (h4 q hq)
    · rw [List.mem_singleton.mp hr]; exact ⟨h2, h4⟩
  refine ⟨key.1, ?_, fun s hs => g.okS (h.sub s (key.2 s hs))⟩
  have := nodup_sub_len key.1 key.2
  have := h.len g
  omega
end Dl
namespace Dl
open PySem PySem.Spec PyProof.Rows L2
/-! ### is_family, of anything -/
theorem LET_low : ∀ c ∈ LET.cps.toList, 97 ≤ c ∧ c < 123 := by decide +kernel
theorem nmB_iff {s : Str} : nmB s = true ↔ IsNm s := by
  unfold nmB IsNm
  by_cases h : 1 ≤ s.length ∧ s.length ≤ 8
  · rw [if_pos h, List.all_eq_true]
    constructor
    · intro q
      refine ⟨h.1, h.2, fun c hc => ?_⟩
      have := q ⟨#[c]⟩ (List.mem_map.mpr ⟨c, hc, rfl⟩)
      rw [strIn_sign] at this
      exact LET_low c (of_decide_eq_true this)
    · rintro ⟨_, _, q⟩ z hz
      obtain ⟨c, hc, rfl⟩ := List.mem_map.mp hz
      rw [strIn_sign]
      exact decide_eq_true (letters_mem c (q c hc).2 (q c hc).1)
  · rw [if_neg h]
    exact ⟨fun q => (nomatch q), fun q => absurd ⟨q.1, q.2.1⟩ h⟩
theorem IsNm.ok {s : Str} (h : IsNm s) : OkS s := by
  refine ⟨?_, by have := h.2.1; omega⟩
  unfold PyData.strOk
  rw [← Array.all_toList, List.all_eq_true]
  intro c hc
  have := (h.2.2 c hc).2
  exact decide_eq_true (by omega)
end Dl
namespace Dl
open PySem PySem.Spec PyProof.Rows L2
def w_is_step : DFn := dDef 3 1 (
  (dSeq (dIf (dB (dOp dEq (dVar 0) (dTup (dCons (dC (.str "onward")) dNil))))
   (dRet (dC (.bool true)))
   dNext)
  (dSeq (dIf (dOr (dNot (dB (dIsi "tuple" (dVar 0)))) (dB (dOp dNe (dCB dLen (dCons (dVar 0) dNil)) (dC (.int 2)))))
   (dRet (dC (.bool false)))
   dNext)
  (dSeq (dAsg (dVar 0) (.tup [(.nm 1), (.nm 2)]))
  (dSeq (dIf (dB (dOp dEq (dVar 1) (dC (.str "ask"))))
   (dRet (dCall0 w_is_name (dCons (dVar 2) dNil)))
   dNext)
  (dSeq (dIf (dB (dOp dEq (dVar 1) (dC (.str "times"))))
   (dRet (dAndV (dCall0 w_is_whole (dCons (dVar 2) dNil)) (dChain dLe dLe (dNeg (dC (.int 9))) (dVar 2) (dC (.int 9)))))
   dNext)
  (dRet (dAndV (dOp dEq (dVar 1) (dC (.str "add"))) (dCall0 w_is_whole (dCons (dVar 2) dNil))))))))))
def w_are_steps : DFn := dDef 2 1 (
  (dRet (dAndV (dIsi "tuple" (dVar 0)) (dAndV (dOp dLe (dCB dLen (dCons (dVar 0) dNil)) (dC (.int 4))) (dCB dAll (dCons (dLc (dSeqI (dVar 0)) (.nm 1) dYes (dCall0 w_is_step (dCons (dVar 1) dNil)) [1]) dNil))))))
def w_is_entry : DFn := dDef 1 1 (
  (dSeq (dIf (dNot (dB (dIsi "tuple" (dVar 0))))
   (dRet (dC (.bool false)))
   dNext)
  (dSeq (dIf (dB (dOp dEq (dCB dLen (dCons (dVar 0) dNil)) (dC (.int 3))))
   (dRet (dAndV (dOp dEq (dOp dIx2 (dVar 0) (dC (.int 0))) (dC (.str "ahead"))) (dAndV (dCall0 w_is_name (dCons (dOp dIx2 (dVar 0) (dC (.int 1))) dNil)) (dCall0 w_is_whole (dCons (dOp dIx2 (dVar 0) (dC (.int 2))) dNil)))))
   dNext)
  (dSeq (dIf (dB (dOp dNe (dCB dLen (dCons (dVar 0) dNil)) (dC (.int 2))))
   (dRet (dC (.bool false)))
   dNext)
  (dSeq (dIf (dB (dOp dEq (dOp dIx2 (dVar 0) (dC (.int 0))) (dC (.str "plain"))))
   (dRet (dCall0 w_is_whole (dCons (dOp dIx2 (dVar 0) (dC (.int 1))) dNil)))
   dNext)
  (dRet (dAndV (dOp (dIn2 false) (dOp dIx2 (dVar 0) (dC (.int 0))) (dTup (dCons (dC (.str "behind")) (dCons (dC (.str "shut")) dNil)))) (dCall0 w_are_steps (dCons (dOp dIx2 (dVar 0) (dC (.int 1))) dNil)))))))))
end Dl
namespace Dl
open PySem PySem.Spec PyProof.Rows L2
/-! ### entries looked at, whatever stands in their place -/
/-- no dicts, no long texts, not deep -/
def tame : Nat → PyData → Bool
  | _, .none => true
  | _, .bool _ => true
  | _, .int _ => true
  | _, .str s => decide (s.length ≤ 1000)
  | n + 1, .list ds => decide (ds.length ≤ 1000) && ds.all (tame n)
  | n + 1, .tuple ds => decide (ds.length ≤ 1000) && ds.all (tame n)
  | _, _ => false
theorem tame_shp : ∀ (n : Nat) {d : PyData}, tame n d = true → shp n d = true
  | n, .none, _ => by cases n <;> rfl
  | n, .bool _, _ => by cases n <;> rfl
  | n, .int _, _ => by cases n <;> rfl
  | n, .str _, _ => by cases n <;> rfl
  | 0, .list _, h => by cases h
  | 0, .tuple _, h => by cases h
  | n + 1, .list ds, h => by
    have h : (decide (ds.length ≤ 1000) && ds.all (tame n)) = true := h
    rw [Bool.and_eq_true, List.all_eq_true] at h
    show ds.all (shp n) = true
    rw [List.all_eq_true]
    exact fun d hd => tame_shp n (h.2 d hd)
  | n + 1, .tuple ds, h => by
    have h : (decide (ds.length ≤ 1000) && ds.all (tame n)) = true := h
    rw [Bool.and_eq_true, List.all_eq_true] at h
    show ds.all (shp n) = true
    rw [List.all_eq_true]
    exact fun d hd => tame_shp n (h.2 d hd)
  | 0, .dict _, h => by cases h
  | _ + 1, .dict _, h => by cases h
theorem tame_tup {n : Nat} {ds : List PyData} (h : tame n (.tuple ds) = true) : ds.length ≤ 1000 ∧ ∀ d ∈ ds, tame (n - 1) d = true := by
  cases n with
  | zero => cases h
  | succ n =>
    have h : (decide (ds.length ≤ 1000) && ds.all (tame n)) = true := h
    rw [Bool.and_eq_true, List.all_eq_true] at h
    exact ⟨of_decide_eq_true h.1, h.2⟩
theorem tame_sm {n : Nat} {d : PyData} (h : tame n d = true) : sm d = true := by
  cases d with
  | str s => cases n <;> exact h
  | dict _ => cases n <;> cases h
  | _ => rfl
theorem go_eqG {n : Nat} {d e : PyData} (hn : n ≤ 40) (hd : tame n d = true) (he : shp 40 e = true) {O : Oh} {R : DK} (h : R (.d (.bool (PyData.eqv d e))) O) : dEq (.d d) (.d e) O R := ⟨shp_le hn (tame_shp n hd), he, h⟩
def wholeB : PyData → Bool
  | .int _ => true
  | _ => false
theorem sp_wholeG {n : Nat} {d : PyData} (hd : tame n d = true) {O : Oh} {R : DK} {xe : Exn → Oh → Prop} (k : R (.d (.bool (wholeB d))) O) : w_is_whole [.d d] O R xe := by
  cases d with
  | dict _ => cases n <;> cases hd
  | _ =>
    refine def_start rfl fun n l cl => ?_
    repeat refine Go.h ?_
    exact k
def nineB : PyData → Bool
  | .int i => decide (-9 ≤ i) && decide (i ≤ 9)
  | _ => false
def stepB (d : PyData) : Bool := if PyData.eqv d (.tuple [.str "onward"]) = true then true else match d with
  | .tuple [a, b] => if PyData.eqv a (.str "ask") = true then nmD b else if PyData.eqv a (.str "times") = true then nineB b else PyData.eqv a (.str "add") && wholeB b
  | _ => false
theorem sp_stepG {n : Nat} {d : PyData} (hn : n ≤ 30) (hd : tame n d = true) {O : Oh} {R : DK} {xe : Exn → Oh → Prop} (k : R (.d (.bool (stepB d))) O) : w_is_step [.d d] O R xe := by
  refine def_start rfl fun n' l cl => ?_
  unfold stepB at k
  repeat refine Go.h ?_
  refine go_eqG (by omega) hd rfl ?_
  repeat refine Go.h ?_
  cases e1 : PyData.eqv d (.tuple [.str "onward"]) with
  | true =>
    rw [if_pos e1] at k
    repeat refine Go.h ?_
    exact k
  | false =>
    rw [if_neg (by rw [e1]; exact Bool.false_ne_true)] at k
    cases d with
    | dict _ => cases n <;> cases hd
    | tuple ds =>
      obtain ⟨hl, hds⟩ := tame_tup hd
      repeat refine Go.h ?_
      have off : ∀ {b : Bool}, b = false → R (.d (.bool b)) O → R (.d (.bool false)) O := fun e h => e ▸ h
      match ds, hl, hds, k with
      | [], _, _, k =>
        rw [decide_eq_true (by simp)]
        repeat refine Go.h ?_
        exact k
      | [_], _, _, k =>
        rw [decide_eq_true (by simp)]
        repeat refine Go.h ?_
        exact k
      | _ :: _ :: _ :: _, _, _, k =>
        rw [decide_eq_true (by simp; omega)]
        repeat refine Go.h ?_
        exact k
      | [a, b], _, hds, k =>
        have ha := hds a (by simp)
        have hb := hds b (by simp)
        dsimp only at k
        rw [decide_eq_false (by simp)]
        repeat refine Go.h ?_
        refine go_eqG (by omega) ha rfl ?_
        repeat refine Go.h ?_
        cases e2 : PyData.eqv a (.str "ask") with
        | true =>
          rw [if_pos e2] at k
          repeat refine Go.h ?_
          refine sp_nameG (tame_sm hb) ?_
          repeat refine Go.h ?_
          exact k
        | false =>
          rw [if_neg (by rw [e2]; exact Bool.false_ne_true)] at k
          repeat refine Go.h ?_
          refine go_eqG (by omega) ha rfl ?_
          repeat refine Go.h ?_
          cases e3 : PyData.eqv a (.str "times") with
          | true =>
            rw [if_pos e3] at k
            repeat refine Go.h ?_
            refine sp_wholeG hb ?_
            cases b with
            | int i =>
              simp only [wholeB]
              repeat refine Go.h ?_
              unfold nineB at k
              dsimp only at k
              by_cases z : -9 ≤ i
              · rw [decide_eq_true z, Bool.true_and] at k
                rw [decide_eq_true z]
                repeat refine Go.h ?_
                exact k
              · rw [decide_eq_false z, Bool.false_and] at k
                rw [decide_eq_false z]
                repeat refine Go.h ?_
                exact k
            | _ =>
              simp only [wholeB]
              repeat refine Go.h ?_
              exact k
          | false =>
            rw [if_neg (by rw [e3]; exact Bool.false_ne_true)] at k
            repeat refine Go.h ?_
            refine go_eqG (by omega) ha rfl ?_
            cases e4 : PyData.eqv a (.str "add") with
            | true =>
              rw [e4, Bool.true_and] at k
              repeat refine Go.h ?_
              refine sp_wholeG hb ?_
              repeat refine Go.h ?_
              exact k
            | false =>
              rw [e4, Bool.false_and] at k
              repeat refine Go.h ?_
              exact k
    | _ =>
      repeat refine Go.h ?_
      exact k
def stepsB : PyData → Bool
  | .tuple ds => if ds.length ≤ 4 then ds.all stepB else false
  | _ => false
theorem sp_stepsG {n : Nat} {d : PyData} (hn : n ≤ 30) (hd : tame n d = true) {O : Oh} {R : DK} {xe : Exn → Oh → Prop} (k : R (.d (.bool (stepsB d))) O) : w_are_steps [.d d] O R xe := by
  cases d with
  | dict _ => cases n <;> cases hd
  | tuple ds =>
    obtain ⟨hl, hds⟩ := tame_tup hd
    unfold stepsB at k
    dsimp only at k
    refine def_start rfl fun n' l cl => ?_
    repeat refine Go.h ?_
    by_cases z : ds.length ≤ 4
    · rw [if_pos z] at k
      rw [decide_eq_true (by simp; omega)]
      repeat refine Go.h ?_
      refine lc_W (fun d => .bool (stepB d)) trivial (by omega) (fun d hd C hC => ?_) ?_
      · repeat refine Go.h ?_
        refine sp_stepG (by omega) (hds d hd) ?_
        exact hC
      repeat refine Go.h ?_
      have e1 : (ds.map fun d => stepB d).all id = ds.all stepB := by rw [List.all_map]; rfl
      rw [e1]
      exact k
    · rw [if_neg z] at k
      rw [decide_eq_false (by simp; omega)]
      repeat refine Go.h ?_
      exact k
  | _ =>
    refine def_start rfl fun n' l cl => ?_
    repeat refine Go.h ?_
    exact k
end Dl
namespace Dl
open PySem PySem.Spec PyProof.Rows L2
/-- a thing among texts, in a tuple or a list -/
theorem go_inG {n : Nat} {d e : PyData} {ks : List Str} (hn : n ≤ 39) (hd : tame n d = true) (he : e = tS ks ∨ e = lS ks) {O : Oh} {R : DK} (h : R (.d (.bool (inB ks d))) O) : dIn2 false (.d d) (.d e) O R := by
  have no : ∀ d : PyData, shp 39 d = true → (∀ s, d ≠ .str s) → R (.d (.bool false)) O → dIn2 false (.d d) (.d e) O R := by
    intro d hs hn h
    rcases he with rfl | rfl
    · refine in_of (x := .d d) (d := d) (e := tS ks) ⟨rfl⟩ (fun s z => by cases z) rfl rfl rfl (shp_leG (by decide) hs) (shp_tS 39 ks) ?_
      rw [any_no hn]
      exact h
    · refine in_of (x := .d d) (d := d) (e := lS ks) ⟨rfl⟩ (fun s z => by cases z) rfl rfl rfl (shp_leG (by decide) hs) (shp_lS 39 ks) ?_
      rw [any_no hn]
      exact h
  have hs := shp_le hn (tame_shp n hd)
  cases d with
  | str s =>
    rcases he with rfl | rfl
    · refine go_inS ?_
      exact h
    · refine go_inS ?_
      exact h
  | dict _ => cases n <;> cases hd
  | none => exact no _ hs (fun s z => by cases z) h
  | bool b => exact no _ hs (fun s z => by cases z) h
  | int i => exact no _ hs (fun s z => by cases z) h
  | list l => exact no _ hs (fun s z => by cases z) h
  | tuple l => exact no _ hs (fun s z => by cases z) h
def entryB : PyData → Bool
  | .tuple [a, b, c] => PyData.eqv a (.str "ahead") && (nmD b && wholeB c)
  | .tuple [a, b] => if PyData.eqv a (.str "plain") = true then wholeB b else inB ["behind", "shut"] a && stepsB b
  | _ => false
theorem sp_entryG {n : Nat} {d : PyData} (hn : n ≤ 30) (hd : tame n d = true) {O : Oh} {R : DK} {xe : Exn → Oh → Prop} (k : R (.d (.bool (entryB d))) O) : w_is_entry [.d d] O R xe := by
  refine def_start rfl fun n' l cl => ?_
  unfold entryB at k
  cases d with
  | dict _ => cases n <;> cases hd
  | tuple ds =>
    obtain ⟨hl, hds⟩ := tame_tup hd
    match ds, hl, hds, k with
    | [], _, _, k =>
      repeat refine Go.h ?_
      rw [decide_eq_false (by simp)]
      repeat refine Go.h ?_
      rw [decide_eq_true (by simp)]
      repeat refine Go.h ?_
      exact k
    | [_], _, _, k =>
      repeat refine Go.h ?_
      rw [decide_eq_false (by simp)]
      repeat refine Go.h ?_
      rw [decide_eq_true (by simp)]
      repeat refine Go.h ?_
      exact k
    | _ :: _ :: _ :: _ :: _, _, _, k =>
      repeat refine Go.h ?_
      rw [decide_eq_false (by simp; omega)]
      repeat refine Go.h ?_
      rw [decide_eq_true (by simp; omega)]
      repeat refine Go.h ?_
      exact k
    | [a, b], _, hds, k =>
      have ha := hds a (by simp)
      have hb := hds b (by simp)
      dsimp only at k
      repeat refine Go.h ?_
      rw [decide_eq_false (by simp)]
      repeat refine Go.h ?_
      rw [decide_eq_false (by simp)]
      repeat refine Go.h ?_
      refine go_eqG (by omega) ha rfl ?_
      cases e2 : PyData.eqv a (.str "plain") with
      | true =>
        rw [if_pos e2] at k
        repeat refine Go.h ?_
        refine sp_wholeG hb ?_
        repeat refine Go.h ?_
        exact k
      | false =>
        rw [if_neg (by rw [e2]; exact Bool.false_ne_true)] at k
        repeat refine Go.h ?_
        refine go_inG (ks := ["behind", "shut"]) (by omega) ha (.inl rfl) ?_
        cases e3 : inB ["behind", "shut"] a with
        | true =>
          rw [e3, Bool.true_and] at k
          repeat refine Go.h ?_
          refine sp_stepsG (by omega) hb ?_
          repeat refine Go.h ?_
          exact k
        | false =>
          rw [e3, Bool.false_and] at k
          repeat refine Go.h ?_
          exact k
    | [a, b, c], _, hds, k =>
      have ha := hds a (by simp)
      have hb := hds b (by simp)
      have hc := hds c (by simp)
      dsimp only at k
      repeat refine Go.h ?_
      rw [decide_eq_true (by simp)]
      repeat refine Go.h ?_
      refine go_eqG (by omega) ha rfl ?_
      cases e2 : PyData.eqv a (.str "ahead") with
      | true =>
        rw [e2, Bool.true_and] at k
        repeat refine Go.h ?_
        refine sp_nameG (tame_sm hb) ?_
        cases e3 : nmD b with
        | true =>
          rw [e3, Bool.true_and] at k
          repeat refine Go.h ?_
          refine sp_wholeG hc ?_
          repeat refine Go.h ?_
          exact k
        | false =>
          rw [e3, Bool.false_and] at k
          repeat refine Go.h ?_
          exact k
      | false =>
        rw [e2, Bool.false_and] at k
        repeat refine Go.h ?_
        exact k
  | _ =>
    repeat refine Go.h ?_
    exact k
end Dl
namespace Dl
open PySem PySem.Spec PyProof.Rows L2
/-! ### entries, drawn: they are entries -/
def StepG (v : PyData) : Prop := tame 2 v = true ∧ stepB v = true
def EntG (v : PyData) : Prop := tame 4 v = true ∧ entryB v = true ∧ EntOk v
theorem tame_nm {n : Nat} {s : Str} (h : IsNm s) : tame n (.str s) = true := by
  have : s.length ≤ 1000 := by have := h.ok.2; omega
  cases n <;> exact decide_eq_true this
theorem stepG_add (i : Int) : StepG (.tuple [.str "add", .int i]) := ⟨rfl, rfl⟩
theorem stepG_times {i : Int} (h : -9 ≤ i ∧ i ≤ 9) : StepG (.tuple [.str "times", .int i]) := by
  refine ⟨rfl, ?_⟩
  show (decide (-9 ≤ i) && decide (i ≤ 9)) = true
  rw [decide_eq_true h.1, decide_eq_true h.2]; rfl
theorem stepG_onward : StepG (.tuple [.str "onward"]) := ⟨rfl, rfl⟩
theorem stepG_ask {s : Str} (h : IsNm s) : StepG (.tuple [.str "ask", .str s]) := by
  refine ⟨?_, nmB_iff.mpr h⟩
  show (decide (2 ≤ 1000) && (tame 1 (.str "ask") && (tame 1 (.str s) && true))) = true
  rw [tame_nm h]; rfl
theorem entG_plain (i : Int) : EntG (.tuple [.str "plain", .int i]) := ⟨rfl, rfl, _, rfl, rfl⟩
theorem entG_ahead (i : Int) {s : Str} (h : IsNm s) : EntG (.tuple [.str "ahead", .str s, .int i]) := by
  refine ⟨?_, ?_, _, rfl, rfl⟩
  · show (decide (3 ≤ 1000) && (tame 3 (.str "ahead") && (tame 3 (.str s) && (tame 3 (.int i) && true)))) = true
    rw [tame_nm h]; rfl
  · show (PyData.eqv (.str "ahead") (.str "ahead") && (nmB s && true)) = true
    rw [nmB_iff.mpr h]; rfl
theorem entG_steps {s : Str} {acc : List PyData} (hs : s = "behind" ∨ s = "shut") (ha : ∀ v ∈ acc, StepG v) (hl : acc.length ≤ 4) : EntG (.tuple [.str s, .tuple acc]) := by
  have h1 : tame 3 (.tuple acc) = true := by
    show (decide (acc.length ≤ 1000) && acc.all (tame 2)) = true
    rw [decide_eq_true (by omega), Bool.true_and, List.all_eq_true]
    exact fun v hv => (ha v hv).1
  have h2 : stepsB (.tuple acc) = true := by
    unfold stepsB
    dsimp only
    rw [if_pos hl, List.all_eq_true]
    exact fun v hv => (ha v hv).2
  have h3 : tame 4 (.tuple [.str s, .tuple acc]) = true := by
    show (decide (2 ≤ 1000) && (tame 3 (.str s) && (tame 3 (.tuple acc) && true))) = true
    rw [h1]
    rcases hs with rfl | rfl <;> rfl
  refine ⟨h3, ?_, _, rfl, tame_shp 4 h3⟩
  unfold entryB
  dsimp only
  rw [h2]
  rcases hs with rfl | rfl
  · rw [if_neg (by decide +kernel), Bool.and_true]
    decide +kernel
  · rw [if_neg (by decide +kernel), Bool.and_true]
    decide +kernel
theorem stepG_draw {p : Nat} {xs : List Str} {k : Nat} (hx : 0 < xs.length) (hz : xs.length ≤ 1000) (low : ∀ s ∈ xs, IsNm s) : Draws p w__law_step [.c p, .d (lS xs), .d (.int k)] fun v => StepG v := by
  intro O R xe hp h
  refine def_start rfl fun n l cl => ?_
  have pt := Pt.start hp l cl
  repeat refine Go.h ?_
  refine digit_at (by decide) (by decide) pt fun d0 O2 hd0 pt => ?_
  haveI := pt.l
  haveI := pt.c
  repeat refine Go.h ?_
  refine dcase (fun z => ?_) (fun z => ?_)
  · repeat refine Go.h ?_
    refine pt_call number_draw pt fun v O3 ⟨i, ev⟩ pt => ?_
    subst ev
    haveI := pt.l
    haveI := pt.c
    repeat refine Go.h ?_
    exact h _ _ (stepG_add i) pt.chg
  repeat refine Go.h ?_
  refine dcase (fun z => ?_) (fun z => ?_)
  · repeat refine Go.h ?_
    refine digit_at (by decide) (by decide) pt fun d1 O3 hd1 pt => ?_
    haveI := pt.l
    haveI := pt.c
    repeat refine Go.h ?_
    exact h _ _ (stepG_times (by omega)) pt.chg
  repeat refine Go.h ?_
  refine dcase (fun z => ?_) (fun z => ?_)
  · repeat refine Go.h ?_
    exact h _ _ stepG_onward pt.chg
  repeat (fail_if_success with_reducible show dIf _ _ _ _ _ _ _); refine Go.h ?_
  rw [show (k : Int) + 1 = ((k + 1 : Nat) : Int) by omega, cut_drop, ← List.map_drop]
  refine join_st (fun Γ' S => ∃ ys O3, Γ' = [some (.c p), some (.d (lS xs)), some (.d (.int k)), some (.d (.int d0)), some (.d (lS ys))] ∧ S = O3 ++ [] ∧ Pt p n O O3 ∧ 0 < ys.length ∧ ys.length ≤ 1000 ∧ ∀ s ∈ ys, s ∈ xs) ?_ ?_
  · intro C hC
    repeat refine Go.h ?_
    refine dcase (fun z => ?_) (fun z => ?_)
    · repeat refine Go.h ?_
      exact hC _ _ ⟨xs, _, rfl, rfl, pt, hx, hz, fun _ h => h⟩
    · have hy := List.length_pos_iff.mpr z
      repeat refine Go.h ?_
      refine digit_at (by decide) (by decide) pt fun d1 O3 hd1 pt => ?_
      repeat refine Go.h ?_
      refine dcase (fun z => ?_) (fun z => ?_)
      · repeat refine Go.h ?_
        exact hC _ _ ⟨xs, _, rfl, rfl, pt, hx, hz, fun _ h => h⟩
      · repeat refine Go.h ?_
        exact hC _ _ ⟨_, _, rfl, rfl, pt, hy, by rw [List.length_drop]; omega, fun s hs => List.mem_of_mem_drop hs⟩
  · rintro Γ S ⟨ys, O3, rfl, rfl, pt, hy, hz, hys⟩
    repeat refine Go.h ?_
    simp only [List.length_map]
    refine digit_at (by omega) (by omega) pt fun d2 O4 hd2 pt => ?_
    haveI := pt.l
    haveI := pt.c
    repeat refine Go.h ?_
    obtain ⟨s, hs, e⟩ := at_mem (xs := ys) (d := d2) (by omega)
    refine go_ix e ?_
    repeat refine Go.h ?_
    exact h _ _ (stepG_ask (low s (hys s hs))) pt.chg
theorem entryG_draw {p : Nat} {xs : List Str} {k : Nat} (hx : 0 < xs.length) (hz : xs.length ≤ 1000) (hk : k < 1000000) (low : ∀ s ∈ xs, IsNm s) : Draws p w__law_entry [.c p, .d (lS xs), .d (.int k)] EntG := by
  intro O R xe hp h
  refine def_start rfl fun n l cl => ?_
  have pt := Pt.start hp l cl
  repeat refine Go.h ?_
  refine digit_at (by decide) (by decide) pt fun d0 O2 hd0 pt => ?_
  haveI := pt.l
  haveI := pt.c
  repeat refine Go.h ?_
  refine dcase (fun z => ?_) (fun z0 => ?_)
  · repeat refine Go.h ?_
    refine pt_call number_draw pt fun v O3 ⟨i, ev⟩ pt => ?_
    subst ev
    haveI := pt.l
    haveI := pt.c
    repeat refine Go.h ?_
    exact h _ _ (entG_plain i) pt.chg
  repeat refine Go.h ?_
  refine dcase (fun z => ?_) (fun z1 => ?_)
  · repeat refine Go.h ?_
    simp only [List.length_map]
    refine digit_at (by omega) (by omega) pt fun d1 O3 hd1 pt => ?_
    haveI := pt.l
    haveI := pt.c
    repeat refine Go.h ?_
    simp only [List.length_map]
    refine ⟨by omega, ?_⟩
    repeat refine Go.h ?_
    obtain ⟨s, hs, e⟩ := at_mem (xs := xs) (d := (k + 1 + d1) % xs.length) (Nat.mod_lt _ hx)
    rw [show ((k : Int) + 1 + (d1 : Int)) % (xs.length : Int) = (((k + 1 + d1) % xs.length : Nat) : Int) by push_cast; rfl]
    refine go_ix e ?_
    repeat refine Go.h ?_
    refine pt_call number_draw pt fun v O3 ⟨i, ev⟩ pt => ?_
    subst ev
    haveI := pt.l
    haveI := pt.c
    repeat refine Go.h ?_
    exact h _ _ (entG_ahead i (low s hs)) pt.chg
  repeat refine Go.h ?_
  refine digit_at (by decide) (by decide) pt fun d1 O3 hd1 pt => ?_
  haveI := pt.l
  haveI := pt.c
  repeat refine Go.h ?_
  refine go_rng (by omega) ?_
  repeat refine Go.h ?_
  refine lc_rng (fun k acc S => ∃ O4, S = O4 ++ [] ∧ Pt p n O O4 ∧ (∀ v ∈ acc, StepG v) ∧ acc.length = k) ⟨_, rfl, pt, by simp, rfl⟩ ?_ ?_
  rotate_left
  · rintro k1 acc S hk1 ⟨O4, rfl, pt, ha, hl⟩ C2 N2 hC2 hN2
    repeat refine Go.h ?_
    refine pt_call (stepG_draw hx hz low) pt fun v O3 hs pt => ?_
    refine hC2 _ _ (by omega) ⟨_, rfl, pt, ?_, by simp [hl]⟩
    intro u hu
    rcases List.mem_append.mp hu with hu | hu
    · exact ha u hu
    · rw [List.mem_singleton.mp hu]; exact hs
  · rintro acc S ⟨O4, rfl, pt, ha, hl⟩
    haveI := pt.l
    haveI := pt.c
    repeat refine Go.h ?_
    have hi : ∃ s : Str, atI (([PyData.str "behind", .str "behind", .str "shut"] : List PyData).map W.d) ((d0 : Int) - 2) = some (.d (.str s)) ∧ (s = "behind" ∨ s = "shut") := by
      have : d0 = 2 ∨ d0 = 3 ∨ d0 = 4 := by omega
      rcases this with rfl | rfl | rfl
      · exact ⟨_, rfl, .inl rfl⟩
      · exact ⟨_, rfl, .inl rfl⟩
      · exact ⟨_, rfl, .inr rfl⟩
    obtain ⟨s, hi, hs⟩ := hi
    refine go_ix hi ?_
    repeat refine Go.h ?_
    exact h _ _ (entG_steps hs ha (by omega)) pt.chg
end Dl
namespace Dl
open PySem PySem.Spec PyProof.Rows L2
/-! ### walks along lists that are cells; lists of keys -/
def kLcK (t : Tg) (tt : DT) (we : DEx) (Γ : Gm) (R : DK) : List W → (Oh → Prop) → Oh → Prop := fun xs ok O1 => lcGoK ok t tt we Γ (fun acc O2 => R (.c O2.length) (O2 ++ [.lst (acc.map W.k)])) xs [] O1
instance {w : DI} {t : Tg} {tt : DT} {we : DEx} {own : List Nat} {Γ Γ' : Gm} {O : Oh} {R : DK} {xe : DX} [z : Wipe Γ own Γ'] : Go (dLcK w t tt we own Γ O R xe) (w Γ O (kLcK t tt we Γ' R) xe) := ⟨fun h => by unfold dLcK; rw [z.e]; exact h⟩
/-! #### len(set(tuple)) -/
def kLenSetT (R : DK) : DK := fun x O1 => match x with
  | .d (.tuple ds) => (match strsD ds with
    | some ys => ys.length ≤ 1000 ∧ R (.d (.int ((met ys).length : Nat))) O1
    | none => False)
  | _ => False
instance {R : DK} {Γ : Gm} {O : Oh} {xe : DX} {w : DEx} : Go (dLenSetT w Γ O R xe) (w Γ O (kLenSetT R) xe) := ⟨fun h => h⟩
end Dl
namespace Dl
open PySem PySem.Spec PyProof.Rows L2
/-! ### Go's for Dl66 -/
def kPar3 (i j l : Nat) (f : Gm → Oh → Prop) (Γ : Gm) : List W → Oh → Prop := fun vs O => match vs with
  | [u, v, w] => f (((Γ.set i (some u)).set j (some v)).set l (some w)) O
  | _ => False
instance {f b c : Gm → Oh → Prop} {r : DK} {Γ : Gm} {O : Oh} {xe : DX} {i j l : Nat} {ws : DA} : Go (dPar3 i j l ws ⟨f, r, b, c⟩ xe Γ O) (ws Γ O (kPar3 i j l f Γ) xe) := ⟨fun h => h⟩
instance {f : Gm → Oh → Prop} {Γ Γ1 Γ2 Γ3 : Gm} {i j l : Nat} {u v w : W} {O : Oh} [g1 : Put Γ i (some u) Γ1] [g2 : Put Γ1 j (some v) Γ2] [g3 : Put Γ2 l (some w) Γ3] : Go (kPar3 i j l f Γ [u, v, w] O) (f Γ3 O) := ⟨fun h => by unfold kPar3; dsimp only; rw [g1.e, g2.e, g3.e]; exact h⟩
def kCut2 (x : W) (wh : DO) (Γ : Gm) (R : DK) (xe : DX) : Option Int → Oh → Prop := fun lo O2 => wh Γ O2 (fun hi O3 => dSlK x lo hi O3 R) xe
def kCut1 (wl wh : DO) (Γ : Gm) (R : DK) (xe : DX) : DK := fun x O1 => wl Γ O1 (kCut2 x wh Γ R xe) xe
instance {R : DK} {Γ : Gm} {O : Oh} {xe : DX} {wo : DEx} {wl wh : DO} : Go (dSliceK wo wl wh Γ O R xe) (wo Γ O (kCut1 wl wh Γ R xe) xe) := ⟨fun h => h⟩
/-- x[:2] of a tuple whose first two are texts, and that has more -/
theorem go_cut2 {Γ : Gm} {O : Oh} {R : DK} {xe : DX} {a b : Str} {x : PyData} {r : List PyData} (h : R (.k [.inr a, .inr b]) O) : kCut1 dO0 (dO1 (dC (.int 2))) Γ R xe (.d (.tuple (.str a :: .str b :: x :: r))) O := by
  have e1 : HT.sIx (PyData.str a :: .str b :: x :: r).length (PyData.str a :: .str b :: x :: r).length (some 2) = 2 := by
    unfold HT.sIx
    dsimp only
    rw [if_neg (by decide)]
    have : (2 : Int).toNat = 2 := rfl
    rw [this]
    simp only [List.length_cons]
    omega
  have e2 : cutL (PyData.str a :: .str b :: x :: r) none (some 2) = [.str a, .str b] := by
    unfold cutL
    rw [e1]
    rfl
  show dSlK (.d (.tuple (.str a :: .str b :: x :: r))) none (some 2) O R
  unfold dSlK
  dsimp only
  rw [e2]
  refine ⟨fun z => ?_, h⟩
  rw [e1] at z
  have := z.2
  simp at this
end Dl
namespace Dl
open PySem PySem.Spec PyProof.Rows L2
def w_book_without : DFn := dDef 4 3 (
  (dRet (dLc (dSeqI (dVar 0)) (.nm 3) (dB (dOp dNe (dSlice (dVar 3) dO0 (dO1 (dC (.int 2)))) (dTup (dCons (dVar 1) (dCons (dVar 2) dNil))))) (dVar 3) [3])))
def w_name_given : DFn := dDef 5 5 (
  (dSeq (dDrop (dCall w_need_kind (dCons (dVar 0) (dCons (dVar 2) dNil))))
  (dSeq (dIf (dNot (dB (dCall0 w_is_name (dCons (dVar 3) dNil))))
   (dRaise0 "NoName")
   dNext)
  (dSeq (dIf (dNot (dB (dCall0 w_is_entry (dCons (dVar 4) dNil))))
   (dRaise0 "NoEntry")
   dNext)
  (dRet (dCB dTupOf (dCons (dCB dSortT (dCons (dOp dAdd (dCall0 w_book_without (dCons (dVar 1) (dCons (dVar 2) (dCons (dVar 3) dNil)))) (dLst (dCons (dTup (dCons (dVar 2) (dCons (dVar 3) (dCons (dVar 4) dNil)))) dNil))) dNil)) dNil)))))))
def w_name_taken : DFn := dDef 4 4 (
  (dSeq (dDrop (dCall w_need_kind (dCons (dVar 0) (dCons (dVar 2) dNil))))
  (dSeq (dIf (dOr (dNot (dB (dCall0 w_is_name (dCons (dVar 3) dNil)))) (dB (dOp (dIs2 false) (dCall0 w_entry_of (dCons (dVar 1) (dCons (dVar 2) (dCons (dVar 3) dNil)))) (dC .none))))
   (dRaise0 "NoName")
   dNext)
  (dRet (dCB dTupOf (dCons (dCall0 w_book_without (dCons (dVar 1) (dCons (dVar 2) (dCons (dVar 3) dNil)))) dNil))))))
def w__law_deed : DFn := dDef 8 4 (
  (dSeq (dAsg (dCall0 w__law_digit (dCons (dVar 0) (dCons (dC (.int 5)) dNil))) (.nm 4))
  (dSeq (dAsg (dOp dIx2 (dVar 2) (dCall0 w__law_digit (dCons (dVar 0) (dCons (dCB dLen (dCons (dVar 2) dNil)) dNil)))) (.nm 5))
  (dSeq (dAsg (dCall0 w__law_digit (dCons (dVar 0) (dCons (dCB dLen (dCons (dVar 3) dNil)) dNil))) (.nm 6))
  (dSeq (dAsg (dCB dListT (dCons (dVar 1) dNil)) (.nm 7))
  (dSeq (dIf (dAnd (dB (dOp dEq (dVar 4) (dC (.int 0)))) (dB (dOp dNeKs (dVar 7) (dLst dNil))))
   (dRet (dOp dAddK (dOp dIx2 (dVar 7) (dCall0 w__law_digit (dCons (dVar 0) (dCons (dCB dLen (dCons (dVar 7) dNil)) dNil)))) (dTup (dCons (dC .none) dNil))))
   dNext)
  (dSeq (dIf (dAnd (dB (dOp dEq (dVar 4) (dC (.int 1)))) (dB (dOp (dIn2 false) (dTupK (dCons (dVar 5) (dCons (dOp dIx2 (dVar 3) (dVar 6)) dNil))) (dVar 1))))
   (dRet (dTup (dCons (dVar 5) (dCons (dOp dIx2 (dVar 3) (dVar 6)) (dCons (dOp dIx2 (dVar 1) (dTupK (dCons (dVar 5) (dCons (dOp dIx2 (dVar 3) (dVar 6)) dNil)))) dNil)))))
   dNext)
  (dRet (dTup (dCons (dVar 5) (dCons (dOp dIx2 (dVar 3) (dVar 6)) (dCons (dCall0 w__law_entry (dCons (dVar 0) (dCons (dVar 3) (dCons (dVar 6) dNil)))) dNil))))))))))))
def w__law_done : DFn := dDef 6 3 (
  (dSeq (dAsg (dVar 2) (.tup [(.nm 3), (.nm 4), (.nm 5)]))
  (dSeq (dIf (dB (dOp (dIs2 false) (dVar 5) (dC .none)))
   (dRet (dCall w_name_taken (dCons (dVar 0) (dCons (dVar 1) (dCons (dVar 3) (dCons (dVar 4) dNil))))))
   dNext)
  (dRet (dCall w_name_given (dCons (dVar 0) (dCons (dVar 1) (dCons (dVar 3) (dCons (dVar 4) (dCons (dVar 5) dNil))))))))))
def w_law : DFn := dDef 13 1 (
  (dSeq (dAsg (dCall0 w__law_pot (dCons (dVar 0) (dCons (dC (.int 0)) dNil))) (.nm 1))
  (dSeq (dAsg (dOp dEq (dCall0 w__law_digit (dCons (dVar 1) (dCons (dC (.int 4)) dNil))) (dC (.int 0))) (.nm 2))
  (dSeq (dAsg (dCall0 w__law_names (dCons (dVar 1) (dCons (dC (.int 14)) dNil))) (.nm 3))
  (dSeq (dAsg (dSlice (dVar 3) dO0 (dO1 (dOp dAdd (dC (.int 1)) (dCall0 w__law_digit (dCons (dVar 1) (dCons (dC (.int 8)) dNil)))))) (.nm 4))
  (dSeq (dAsg (dSlice (dSlice (dVar 3) (dO1 (dOp dIx2 (dLst (dCons (dC (.int 8)) (dCons (dC (.int 0)) dNil))) (dCB dIntB (dCons (dVar 2) dNil)))) dO0) dO0 (dO1 (dOp dAdd (dC (.int 1)) (dCall0 w__law_digit (dCons (dVar 1) (dCons (dC (.int 6)) dNil)))))) (.nm 5))
  (dSeq (dAsg (dCall0 w__law_family_tuple (dCons (dOp dIx2 (dCall0 w__law_family4 (dCons (dVar 1) (dCons (dVar 4) dNil))) (dC (.int 1))) dNil)) (.nm 6))
  (dSeq (dPar3 8 9 10 (dCons dDicT (dCons (dLstC (dCons (dTup dNil) dNil)) (dCons (dLstC dNil) dNil))))
  (dSeq (dFor (dRng2 (dCons (dC (.int 1)) (dCons (dOp dAdd (dCB dMin (dCons (dCB dLen (dCons (dVar 0) dNil)) (dCons (dC (.int 41)) dNil))) (dC (.int 5))) dNil))) (.nm 7)
   (dSeq (dAsg (dCall0 w__law_deed (dCons (dCall0 w__law_pot (dCons (dVar 0) (dCons (dVar 7) dNil))) (dCons (dVar 8) (dCons (dVar 4) (dCons (dVar 5) dNil))))) (.nm 11))
   (dSeq (dAsg (dCall w__law_done (dCons (dVar 6) (dCons (dOp dIx2 (dVar 9) (dNeg (dC (.int 1)))) (dCons (dVar 11) dNil)))) (.nm 12))
   (dSeq (dIf (dB (dOp (dIs2 false) (dOp dIx2 (dVar 11) (dC (.int 2))) (dC .none)))
    (dDrop (dBM isDicW dPopK (dVar 8) (dCons (dSliceK (dVar 11) dO0 (dO1 (dC (.int 2)))) dNil)))
    (dSetI (dVar 8) (dSliceK (dVar 11) dO0 (dO1 (dC (.int 2)))) (dOp dIx2 (dVar 11) (dC (.int 2)))))
   (dSeq (dIf (dOr (dNot (dB (dIsi "tuple" (dVar 12)))) (dB (dOp dNe (dVar 12) (dCall0 w__law_book_tuple (dCons (dVar 8) dNil)))))
    (dRet (dC (.bool false)))
    dNext)
   (dSeq (dDrop (dBM isLstW dAppend (dVar 9) (dCons (dVar 12) dNil)))
   (dDrop (dBM isLstW dAppend (dVar 10) (dCons (dVar 11) dNil)))))))))
  (dRet (dOp dEq (dLc (dZipL (dCons (dVar 9) (dCons (dVar 10) dNil))) (.tup [(.nm 12), (.nm 11)]) dYes (dCall w__law_done (dCons (dVar 6) (dCons (dVar 12) (dCons (dVar 11) dNil)))) [11, 12]) (dSlice (dVar 9) (dO1 (dC (.int 1))) dO0))))))))))))
end Dl
namespace Dl
open PySem PySem.Spec PyProof.Rows L2
/-! ### a name given, a name taken -/
theorem trD_inj : Function.Injective trD := fun a b h => by
  obtain ⟨a1, a2, a3⟩ := a
  obtain ⟨b1, b2, b3⟩ := b
  injection h with h
  injection h with h1 h
  injection h with h2 h
  injection h with h3 _
  injection h1 with h1
  injection h2 with h2
  have h1 : a1 = b1 := h1
  have h2 : a2 = b2 := h2
  have h3 : a3 = b3 := h3
  rw [h1, h2, h3]
theorem map_inj {α β : Type} {f : α → β} (hf : Function.Injective f) : ∀ {xs ys : List α}, xs.map f = ys.map f → xs = ys
  | [], [], _ => rfl
  | [], _ :: _, h => by cases h
  | _ :: _, [], h => by cases h
  | x :: xs, y :: ys, h => by
    rw [List.map_cons, List.map_cons] at h
    injection h with h1 h2
    rw [hf h1, map_inj hf h2]
theorem nd_k2 {ks xs : List Str} {b : Bk} (hb : BkOk ks xs b) : ((b.map trD).map k2).Nodup := by
  rw [List.map_map]
  exact hb.nd
theorem srtB_of {ks xs : List Str} {b c : Bk} (hb : BkOk ks xs b) (p : c.Perm b) (hs : (c.map trD).Pairwise fun d e => le2 d e = true) : c = srtB b := by
  have := srt2_of (p.map trD) (nd_k2 hb) hs
  rw [srt2_bk] at this
  exact map_inj trD_inj this
theorem srtB_pw (b : Bk) : ((srtB b).map trD).Pairwise fun d e => le2 d e = true := by
  rw [← srt2_bk]
  exact srt2_pw _
theorem srtB_eq {ks xs : List Str} {b c : Bk} (hb : BkOk ks xs b) (p : c.Perm b) : srtB c = srtB b := srtB_of hb ((srtB_perm c).trans p) (srtB_pw c)
theorem bdel_perm {b c : Bk} (p : c.Perm b) (k n : Str) : (bdel c k n).Perm (bdel b k n) := p.filter _
/-- what is taken out of the sorted book is the sorted book of what is left -/
theorem srtB_del {ks xs : List Str} {b : Bk} (hb : BkOk ks xs b) (k n : Str) : bdel (srtB b) k n = srtB (bdel b k n) := by
  refine srtB_of hb.del (bdel_perm (srtB_perm b) k n) ?_
  exact (srtB_pw b).sublist (List.Sublist.map _ List.filter_sublist)
/-- put anew: the same book as with the old row taken out -/
theorem bput_perm {ks xs : List Str} {b : Bk} (hb : BkOk ks xs b) (k n : Str) (e : PyData) : (bdel b k n ++ [(k, n, e)]).Perm (bput b k n e) := by
  unfold bput
  by_cases z : b.any (isB k n) = true
  · rw [if_pos z]
    have nd := hb.nd
    clear hb
    induction b with
    | nil => cases z
    | cons r t ih =>
      rw [List.map_cons, List.nodup_cons] at nd
      unfold bdel
      by_cases q : isB k n r = true
      · obtain ⟨e1, e2⟩ := isB_iff.mp q
        have no : ∀ s ∈ t, isB k n s = false := fun s hs => by
          cases w : isB k n s with
          | false => rfl
          | true =>
            obtain ⟨e3, e4⟩ := isB_iff.mp w
            exact absurd (List.mem_map.mpr ⟨s, hs, by rw [e3, e4, e1, e2]⟩) nd.1
        rw [List.filter_cons_of_neg (by rw [q]; simp), List.map_cons, if_pos q, e1, e2, List.filter_eq_self.mpr fun s hs => by rw [no s hs]; rfl]
        have : (t.map fun r => if isB k n r = true then (r.1, r.2.1, e) else r) = t := by
          conv => rhs; rw [← List.map_id t]
          exact List.map_congr_left fun s hs => by rw [no s hs]; rfl
        rw [this]
        exact (List.perm_append_comm (l₁ := t) (l₂ := [(k, n, e)]))
      · rw [List.filter_cons_of_pos (by rw [Bool.eq_false_iff.mpr q]; rfl), List.map_cons, if_neg q]
        have z2 : t.any (isB k n) = true := by
          rw [List.any_cons] at z
          rcases Bool.or_eq_true _ _ ▸ z with z | z
          · exact absurd z q
          · exact z
        exact (ih z2 nd.2).cons r
  · rw [if_neg z]
    have : bdel b k n = b := List.filter_eq_self.mpr fun s hs => by
      cases w : isB k n s with
      | false => rfl
      | true => exact absurd (List.any_eq_true.mpr ⟨s, hs, w⟩) z
    rw [this]
theorem sp_book_without {b : Bk} {k n : Str} (hz : b.length ≤ 1000000) {O : Oh} {R : DK} {xe : Exn → Oh → Prop} (h : R (.d (.list ((bdel b k n).map trD))) O) : w_book_without [.d (bkD b), .d (.str k), .d (.str n)] O R xe := by
  refine def_start rfl fun m l cl => ?_
  repeat refine Go.h ?_
  refine lc_mapD trD (fun r => !isB k n r) trD trivial hz (fun r hr C hC => ?_) (fun r hr z C hC => ?_) ?_
  · repeat refine Go.h ?_
    show dNe (.d (.tuple [.str r.1, .str r.2.1])) _ _ _
    refine ⟨rfl, rfl, ?_⟩
    have : (!PyData.eqv (.tuple [.str r.1, .str r.2.1]) (.tuple [.str k, .str n])) = !isB k n r := by
      simp only [PyData.eqv, PyData.eqvAll, isB, Bool.and_true, Bool.decide_and]
      rfl
    rw [this]
    repeat refine Go.h ?_
    exact hC
  · repeat refine Go.h ?_
    exact hC
  repeat refine Go.h ?_
  exact h
theorem twoB_perm {ds es : List PyData} (p : es.Perm ds) (h : twoB ds) : twoB es := by
  obtain ⟨h1, h2, h3, h4⟩ := h
  refine ⟨fun d hd => h1 d (p.mem_iff.mp hd), ((p.map _).nodup_iff).mpr h2, fun d hd => h3 d (p.mem_iff.mp hd), ?_⟩
  rw [List.all_eq_true] at h4 ⊢
  exact fun d hd => h4 d (p.mem_iff.mp hd)
theorem sp_name_given {fam : List Kd} {ks ns xs : List Str} {b : Bk} {k n : Str} {e : PyData} (hkl : ns.length ≤ 1000) (hk : k ∈ ns) (hb : BkOk ks xs b) (hkk : k ∈ ks) (hnx : n ∈ xs) (hz : b.length ≤ 1000) (hn : IsNm n) (he : EntG e)
    {O : Oh} {R : DK} {xe : Exn → Oh → Prop} (h : R (.d (bkD (srtB (bput b k n e)))) O) : w_name_given [.d (fmD fam ns), .d (bkD (srtB b)), .d (.str k), .d (.str n), .d e] O R xe := by
  obtain ⟨he1, he2, he3⟩ := he
  have hl := (srtB_perm b).length_eq
  have hbp := hb.put hkk hnx he3
  have pp : (bdel (srtB b) k n ++ [(k, n, e)]).Perm (bput b k n e) := ((bdel_perm (srtB_perm b) k n).append_right _).trans (bput_perm hb k n e)
  refine def_start rfl fun m l cl => ?_
  repeat refine Go.h ?_
  refine sp_need_kind hkl hk ?_
  repeat refine Go.h ?_
  refine sp_is_name hn ?_
  repeat refine Go.h ?_
  refine sp_entryG (n := 4) (by omega) he1 ?_
  rw [he2]
  repeat refine Go.h ?_
  refine sp_book_without (by omega) ?_
  repeat refine Go.h ?_
  refine go_addD (by have := bdel_len (srtB b) k n; simp; omega) ?_
  repeat refine Go.h ?_
  have e2 : (bdel (srtB b) k n).map trD ++ [PyData.tuple [.str k, .str n, e]] = (bdel (srtB b) k n ++ [(k, n, e)]).map trD := by rw [List.map_append]; rfl
  rw [e2]
  refine go_sortT (twoB_perm (pp.map trD) (twoB_bk hbp)) ?_
  rw [srt2_bk, srtB_eq hbp pp]
  repeat refine Go.h ?_
  exact h
theorem sp_name_taken {fam : List Kd} {ks ns xs : List Str} {b : Bk} {k n : Str} {e : PyData} (hkl : ns.length ≤ 1000) (hk : k ∈ ns) (hb : BkOk ks xs b) (hz : b.length ≤ 1000) (hn : IsNm n) (he : bget b k n = some e)
    {O : Oh} {R : DK} {xe : Exn → Oh → Prop} (h : R (.d (bkD (srtB (bdel b k n)))) O) : w_name_taken [.d (fmD fam ns), .d (bkD (srtB b)), .d (.str k), .d (.str n)] O R xe := by
  have hl := (srtB_perm b).length_eq
  obtain ⟨es, rfl, _⟩ := hb.ent _ (bget_mem he)
  refine def_start rfl fun m l cl => ?_
  repeat refine Go.h ?_
  refine sp_need_kind hkl hk ?_
  repeat refine Go.h ?_
  refine sp_is_name hn ?_
  repeat refine Go.h ?_
  refine sp_entry_of ?_
  rw [bget_perm hb (srtB_perm b), he]
  repeat refine Go.h ?_
  refine sp_book_without (by omega) ?_
  rw [srtB_del hb]
  repeat refine Go.h ?_
  exact h
end Dl
namespace Dl
open PySem PySem.Spec PyProof.Rows L2
/-! ### a deed, drawn and done -/
inductive Deed (ks xs : List Str) (b : Bk) : PyData → Bk → Prop
  | take {k n : Str} {e : PyData} : k ∈ ks → n ∈ xs → bget b k n = some e → Deed ks xs b (.tuple [.str k, .str n, .none]) (bdel b k n)
  | give {k n : Str} {e : PyData} : k ∈ ks → n ∈ xs → EntG e → Deed ks xs b (.tuple [.str k, .str n, e]) (bput b k n e)
theorem Deed.ok {ks xs : List Str} {b b' : Bk} {v : PyData} (h : Deed ks xs b v b') (hb : BkOk ks xs b) : BkOk ks xs b' := by
  cases h with
  | take _ _ _ => exact hb.del
  | give h1 h2 h3 => exact hb.put h1 h2 h3.2.2
theorem Deed.len {ks xs : List Str} {b b' : Bk} {v : PyData} (h : Deed ks xs b v b') : b'.length ≤ b.length + 1 := by
  cases h with
  | take _ _ _ => exact Nat.le_succ_of_le (bdel_len _ _ _)
  | give h1 h2 h3 => exact bput_len _ _ _ _
theorem Deed.entG {ks xs : List Str} {b b' : Bk} {v : PyData} (h : Deed ks xs b v b') (hb : ∀ r ∈ b, EntG r.2.2) : ∀ r ∈ b', EntG r.2.2 := by
  intro r hr
  cases h with
  | take _ _ _ => exact hb r (List.mem_filter.mp hr).1
  | give h1 h2 h3 =>
    unfold bput at hr
    split at hr
    · obtain ⟨q, hq, rfl⟩ := List.mem_map.mp hr
      split
      · exact h3
      · exact hb q hq
    · rcases List.mem_append.mp hr with hr | hr
      · exact hb r hr
      · rw [List.mem_singleton.mp hr]; exact h3
theorem go_listT {O : Oh} {R : DK} {j : Nat} {b : Bk} [g : BkM (.c j) O b] (ok : ((bkC b).all fun kv => kv.1.all keyOk) = true) (h : R (.c O.length) (O ++ [.lst (b.map enB)])) : dListT [.c j] O R := by
  unfold dListT
  dsimp only
  rw [g.e]
  refine ⟨ok, ?_⟩
  have : (bkC b).map (fun kv => W.k kv.1) = b.map enB := by unfold bkC; rw [List.map_map]; rfl
  rw [this]
  exact h
theorem go_neKs {O : Oh} {R : DK} {j : Nat} {b : Bk} [g : Cl O j (.lst (b.map enB))] (h : R (.d (.bool (!b.isEmpty))) O) : dNeKs (.c j) (.d (.list [])) O R := by
  unfold dNeKs asL
  dsimp only
  rw [g.e]
  dsimp only
  have : ksOf (b.map enB) = some (b.map fun r => kyB r.1 r.2.1) := by
    rw [show b.map enB = (b.map fun r => kyB r.1 r.2.1).map W.k by rw [List.map_map]; rfl, ksOf_map]
  rw [this]
  dsimp only
  rw [List.isEmpty_map]
  exact h
theorem go_ixKs {O : Oh} {R : DK} {j d : Nat} {b : Bk} [g : Cl O j (.lst (b.map enB))] (hd : d < b.length) (h : ∀ r ∈ b, R (enB r) O) : dIx2 (.c j) (.d (.int (d : Nat))) O R := by
  haveI : AsS (.c j) O (b.map enB) := ⟨by unfold asS; dsimp only; rw [g.e]⟩
  haveI : NoDi (.c j) O := inferInstance
  exact ix2_of (w := enB b[d]) (atI_nat (by rw [List.getElem?_map, List.getElem?_eq_getElem hd]; rfl)) (h _ (List.getElem_mem hd))
theorem go_addKy {O : Oh} {R : DK} {a c : Str} {ys : List PyData} (hy : ys ≠ []) (hz : ys.length ≤ 1000) (h : R (.d (.tuple ([.str a, .str c] ++ ys))) O) : dAddK (.k (kyB a c)) (.d (.tuple ys)) O R :=
  ⟨by simp, hy, by simp; omega, h⟩
theorem deed_draw {p j : Nat} {ks xs : List Str} {b : Bk} (hk : 0 < ks.length) (hkz : ks.length ≤ 1000) (hx : 0 < xs.length) (hxz : xs.length ≤ 1000) (low : ∀ s ∈ xs, IsNm s) (hb : BkOk ks xs b) (he : ∀ r ∈ b, EntG r.2.2) (hbz : b.length ≤ 1000) (kok : ((bkC b).all fun kv => kv.1.all keyOk) = true)
    {O : Oh} {R : DK} {xe : Exn → Oh → Prop} (hp : PotAt O p) (hj : O[j]? = some (.dct (bkC b))) (ne : p ≠ j) (h : ∀ v b' O', Deed ks xs b v b' → Chg p O O' → R (.d v) O') :
    w__law_deed [.c p, .c j, .d (lS ks), .d (lS xs)] O R xe := by
  refine def_start rfl fun n l cl => ?_
  have pt := Pt.start hp l cl
  have hjc : ∀ {O2 : Oh}, Pt p n O O2 → Cl O2 j (.dct (bkC b)) := fun {O2} pt => ⟨by
    obtain ⟨_, x, y, e, _⟩ := pt.chg
    rw [e, List.getElem?_set_ne ne]; exact hj⟩
  repeat refine Go.h ?_
  refine digit_at (by decide) (by decide) pt fun d0 O2 hd0 pt => ?_
  haveI := pt.l
  haveI := pt.c
  repeat refine Go.h ?_
  simp only [List.length_map]
  refine digit_at (by omega) (by omega) pt fun d1 O3 hd1 pt => ?_
  haveI := pt.l
  haveI := pt.c
  obtain ⟨kd, hkd, e1⟩ := at_mem (xs := ks) (d := d1) (by omega)
  repeat refine Go.h ?_
  refine go_ix e1 ?_
  repeat refine Go.h ?_
  simp only [List.length_map]
  refine digit_at (by omega) (by omega) pt fun d2 O4 hd2 pt => ?_
  haveI := pt.l
  haveI := pt.c
  haveI := hjc pt
  obtain ⟨nm, hnm, e2⟩ := at_mem (xs := xs) (d := d2) (by omega)
  repeat refine Go.h ?_
  refine go_listT kok ?_
  have el : (O4 ++ ([] : List Cell)).length = n + 0 := by rw [List.append_nil]; exact pt.l.e
  rw [el, List.append_nil]
  repeat (fail_if_success with_reducible show dIf _ _ _ _ _ _ _); refine Go.h ?_
  refine join_st (fun Γ' S' => Γ' = [some (.c p), some (.c j), some (.d (lS ks)), some (.d (lS xs)), some (.d (.int (d0 : Nat))), some (.d (.str kd)), some (.d (.int (d2 : Nat))), some (.c (n + 0))] ∧ S' = O4 ++ [.lst (b.map enB)]) ?_ ?_
  · intro C hC
    repeat refine Go.h ?_
    refine dcase (fun z => ?_) (fun z => ?_)
    · repeat refine Go.h ?_
      refine go_neKs ?_
      cases hbe : b.isEmpty with
      | true =>
        rw [show (!true) = false from rfl]
        repeat refine Go.h ?_
        exact hC _ _ ⟨rfl, rfl⟩
      | false =>
        rw [show (!false) = true from rfl]
        have hpos : 0 < b.length := by
          cases b with
          | nil => cases hbe
          | cons _ _ => simp
        repeat refine Go.h ?_
        simp only [List.length_map]
        refine digit_at (by omega) (by omega) pt fun d3 O5 hd3 pt => ?_
        haveI := pt.l
        haveI := pt.c
        repeat refine Go.h ?_
        refine go_ixKs (by omega) fun r hr => ?_
        repeat refine Go.h ?_
        refine go_addKy (by simp) (by simp) ?_
        repeat refine Go.h ?_
        exact h _ _ _ (.take (hb.inK r hr) (hb.inN r hr) (bget_of hb hr)) pt.chg
    · repeat refine Go.h ?_
      exact hC _ _ ⟨rfl, rfl⟩
  · rintro Γ S' ⟨rfl, rfl⟩
    have fin : ∀ C : Unit → Prop, True := fun _ => trivial
    repeat (fail_if_success with_reducible show dIf _ _ _ _ _ _ _); refine Go.h ?_
    refine join_st (fun Γ' S' => Γ' = [some (.c p), some (.c j), some (.d (lS ks)), some (.d (lS xs)), some (.d (.int (d0 : Nat))), some (.d (.str kd)), some (.d (.int (d2 : Nat))), some (.c (n + 0))] ∧ S' = O4 ++ [.lst (b.map enB)]) ?_ ?_
    · intro C hC
      repeat refine Go.h ?_
      refine dcase (fun z => ?_) (fun z => ?_)
      · repeat refine Go.h ?_
        refine go_ix e2 ?_
        repeat refine Go.h ?_
        cases hg : bget b kd nm with
        | none =>
          rw [show (none : Option PyData).isSome = false from rfl]
          repeat refine Go.h ?_
          exact hC _ _ ⟨rfl, rfl⟩
        | some e =>
          rw [show (some e).isSome = true from rfl]
          repeat refine Go.h ?_
          refine go_ix e2 ?_
          repeat refine Go.h ?_
          refine go_ix e2 ?_
          repeat refine Go.h ?_
          refine go_ixB hg ?_
          repeat refine Go.h ?_
          exact h _ _ _ (.give hkd hnm (he _ (bget_mem hg))) pt.chg
      · repeat refine Go.h ?_
        exact hC _ _ ⟨rfl, rfl⟩
    · rintro Γ S' ⟨rfl, rfl⟩
      repeat refine Go.h ?_
      refine go_ix e2 ?_
      repeat refine Go.h ?_
      refine pt_call (entryG_draw hx hxz (by omega) low) pt fun v O5 hv pt => ?_
      haveI := pt.l
      haveI := pt.c
      repeat refine Go.h ?_
      exact h _ _ _ (.give hkd hnm hv) pt.chg
theorem sp_done {fam : List Kd} {ks ns xs : List Str} {b b' : Bk} {v : PyData} (hkl : ns.length ≤ 1000) (hks : ∀ k ∈ ks, k ∈ ns) (hb : BkOk ks xs b) (hz : b.length ≤ 1000) (low : ∀ s ∈ xs, IsNm s) (d : Deed ks xs b v b')
    {O : Oh} {R : DK} {xe : Exn → Oh → Prop} (h : R (.d (bkD (srtB b'))) O) : w__law_done [.d (fmD fam ns), .d (bkD (srtB b)), .d v] O R xe := by
  refine def_start rfl fun m l cl => ?_
  cases d with
  | take h1 h2 h3 =>
    repeat refine Go.h ?_
    refine sp_name_taken hkl (hks _ h1) hb hz (low _ h2) h3 ?_
    repeat refine Go.h ?_
    exact h
  | @give k n e h1 h2 h3 =>
    obtain ⟨es, rfl, _⟩ := h3.2.2
    repeat refine Go.h ?_
    refine sp_name_given hkl (hks _ h1) hb h1 h2 hz (low _ h2) h3 ?_
    repeat refine Go.h ?_
    exact h
end Dl
namespace Dl
open PySem PySem.Spec PyProof.Rows L2
/-! ### k33 -/
abbrev Hst := List (Bk × PyData × Bk)
abbrev hA (r : Bk × PyData × Bk) : PyData := bkD (srtB r.1)
abbrev hV (r : Bk × PyData × Bk) : PyData := r.2.1
abbrev hB (r : Bk × PyData × Bk) : PyData := bkD (srtB r.2.2)
theorem law_all {ns : List Int} {R : DK} {xe : Exn → Oh → Prop} {O : Oh} (h : ∀ O', R (.d (.bool true)) O') : w_law [.d (scr ns)] O R xe := by
  refine def_start rfl fun n l cl => ?_
  have ol := l.e
  repeat refine Go.h ?_
  refine sp_pot (k := 0) (by omega) fun x y okp => ?_
  repeat refine Go.h ?_
  refine draw_at (digit_draws (by decide) (by decide)) okp ?_
  rintro v x y ⟨d0, rfl, hd0⟩ okp
  repeat refine Go.h ?_
  refine draw_at (names_draw (m := 14) (by omega)) okp ?_
  rintro v x y ⟨ws, rfl, nw⟩ okp
  have hwl := nw.len
  repeat refine Go.h ?_
  refine draw_at (digit_draws (by decide) (by decide)) okp ?_
  rintro v x y ⟨d1, rfl, hd1⟩ okp
  repeat refine Go.h ?_
  rw [show (1 : Int) + (d1 : Int) = ((1 + d1 : Nat) : Int) by omega, cut_take, ← List.map_take]
  generalize hks : ws.take (1 + d1) = ks
  have hkl : ks.length = 1 + d1 := by rw [← hks, List.length_take]; omega
  have nk : NamesD ks ks.length := nw.sub (by rw [← hks]; exact List.take_sublist _ _)
  obtain ⟨i, hi, hi8⟩ : ∃ i : Nat, atI (([PyData.int 8, .int 0] : List PyData).map W.d) (if decide ((d0 : Int) = 0) = true then 1 else 0) = some (.d (.int i)) ∧ i ≤ 8 := by
    by_cases z : (d0 : Int) = 0
    · rw [decide_eq_true z]; exact ⟨0, rfl, by omega⟩
    · rw [decide_eq_false z]; exact ⟨8, rfl, by omega⟩
  repeat refine Go.h ?_
  refine go_ix hi ?_
  repeat refine Go.h ?_
  rw [cut_drop, ← List.map_drop]
  repeat refine Go.h ?_
  refine draw_at (digit_draws (by decide) (by decide)) okp ?_
  rintro v x y ⟨d2, rfl, hd2⟩ okp
  repeat refine Go.h ?_
  rw [show (1 : Int) + (d2 : Int) = ((1 + d2 : Nat) : Int) by omega, cut_take, ← List.map_take]
  generalize hnx : (ws.drop i).take (1 + d2) = xs
  have hxl : xs.length = 1 + d2 := by rw [← hnx, List.length_take, List.length_drop]; omega
  have nx : NamesD xs xs.length := nw.sub (by rw [← hnx]; exact (List.take_sublist _ _).trans (List.drop_sublist _ _))
  refine draw_at (family4_draws nk (by omega)) okp ?_
  rintro v x y ⟨fam, hf, e1, ev⟩ okp
  have ev : v = .tuple [.dict (kvD (fun s => lS (LnF fam s)) (nms fam)), .dict (kvD (fun s => lS (OwF fam s)) (nms fam))] := by rw [ev, ← e1]
  subst ev
  repeat refine Go.h ?_
  refine sp_family_tuple (by rw [e1]; omega) ?_
  have hpm : (srtS (nms fam)).Perm (nms fam) := srtS_perm _
  have hnl : (srtS (nms fam)).length ≤ 1000 := by rw [hpm.length_eq, e1]; omega
  have hksn : ∀ k ∈ ks, k ∈ srtS (nms fam) := fun k hk => hpm.mem_iff.mpr (by rw [e1]; exact hk)
  have hx0 : 0 < xs.length := by omega
  have hk0 : 0 < ks.length := by omega
  repeat refine Go.h ?_
  generalize hq0 : List.length (O ++ []) = q0
  rw [List.append_nil]
  have hq := lo_hiN 41 ((List.map W.d (ns.map PyData.int)).length : Nat) (by decide) (by omega)
  repeat refine Go.h ?_
  refine go_rng2 (by omega) (by omega) ?_
  have hcnt : ((if (41 : Int) < ((List.map W.d (ns.map PyData.int)).length : Int) then (41 : Int) else ((List.map W.d (ns.map PyData.int)).length : Int)) + 5 - 1).toNat ≤ 45 := by omega
  generalize ((if (41 : Int) < ((List.map W.d (ns.map PyData.int)).length : Int) then (41 : Int) else ((List.map W.d (ns.map PyData.int)).length : Int)) + 5 - 1).toNat = cnt at *
  generalize hai : decide ((d0 : Int) = 0) = al
  repeat refine Go.h ?_
  obtain ⟨q1, hq1⟩ : ∃ q1, q1 = n + 1 := ⟨_, rfl⟩
  obtain ⟨q2, hq2⟩ : ∃ q2, q2 = n + 2 := ⟨_, rfl⟩
  obtain ⟨q3, hq3⟩ : ∃ q3, q3 = n + 3 := ⟨_, rfl⟩
  rw [← hq1, ← hq2, ← hq3]
  refine for_mapD (fun k : Nat => PyData.int (k : Nat)) (fun rest Γ S => ∃ a1 a7 a11 a12 b, ∃ hs : Hst, Γ = [some (.d (scr ns)), a1, some (.d (.bool al)), some (.d (lS ws)), some (.d (lS ks)), some (.d (lS xs)), some (.d (fmD fam (srtS (nms fam)))), a7, some (.c q1), some (.c q2), some (.c q3), a11, a12] ∧
      (∃ L, S = O ++ L) ∧ S[q1]? = some (.dct (bkC b)) ∧ S[q2]? = some (.lst ((hs.map hA ++ [bkD (srtB b)]).map W.d)) ∧ hs.map hA ++ [bkD (srtB b)] = .tuple [] :: hs.map hB ∧ S[q3]? = some (.lst ((hs.map hV).map W.d)) ∧
      BkOk ks xs b ∧ (∀ r ∈ b, EntG r.2.2) ∧ b.length ≤ hs.length ∧ hs.length + rest.length ≤ 45 ∧ (∀ r ∈ hs, BkOk ks xs r.1 ∧ r.1.length ≤ 1000 ∧ Deed ks xs r.1 r.2.1 r.2.2) ∧ ∀ k ∈ rest, k < 1000)
    ⟨_, _, _, _, [], [], rfl, ⟨_, rfl⟩, ?_, ?_, by simp [srtB, bkD], ?_, .nil, by simp, Nat.le_refl _, ?_, by simp, fun k hk => ?_⟩ ?_ ?_
  · rw [hq1, ← ol, List.getElem?_append_right (by omega), Nat.add_sub_cancel_left]; rfl
  · rw [hq2, ← ol, List.getElem?_append_right (by omega), Nat.add_sub_cancel_left]
    simp [srtB, bkD]
  · rw [hq3, ← ol, List.getElem?_append_right (by omega), Nat.add_sub_cancel_left]; rfl
  · rw [List.length_range']; simpa using hcnt
  · have := List.mem_range'.mp hk; omega
  · rintro Γ S ⟨a1, a7, a11, a12, b, hs, rfl, ⟨L, rfl⟩, h1, h2, h2b, h3, hb, he, hbl, hhl, hh, _⟩
    haveI : Cl (O ++ L) q2 (.lst ((hs.map hA ++ [bkD (srtB b)]).map W.d)) := ⟨h2⟩
    repeat refine Go.h ?_
    refine go_zipLs (snap_cell h2 (datas_map _)) (snap_cell h3 (datas_map _)) ?_
    rw [zipW_more]
    repeat refine Go.h ?_
    refine lc_en (en := fun r : Bk × PyData × Bk => W.p [hA r, hV r]) (p := fun _ => true) (g := hB) ⟨h2, h3⟩ (by omega) (fun r hr C N hC hN => ?_) ?_
    · obtain ⟨k1, k2, k3⟩ := hh r hr
      repeat refine Go.h ?_
      refine sp_done hnl hksn k1 k2 nx.low k3 ?_
      repeat refine Go.h ?_
      exact hC rfl
    rw [List.filter_eq_self.mpr fun _ _ => rfl]
    repeat refine Go.h ?_
    rw [h2b, show (some (1 : Int)) = some ((1 : Nat) : Int) from rfl, cut_drop]
    repeat refine Go.h ?_
    show dEq (.d (.list (hs.map hB))) (.d (.list (hs.map hB))) _ _
    have sh : shp 40 (.list (hs.map hB)) = true := by
      show (hs.map hB).all (shp 39) = true
      rw [List.all_eq_true]
      intro d hd
      obtain ⟨r, hr, rfl⟩ := List.mem_map.mp hd
      obtain ⟨k1, k2, k3⟩ := hh r hr
      exact shp_bk ((k3.ok k1).perm (srtB_perm _))
    refine ⟨sh, sh, ?_⟩
    rw [eqv_refl 40 _ sh]
    repeat refine Go.h ?_
    exact h _
  · rintro k rest Γ S ⟨a1, a7, a11, a12, b, hs, rfl, hSO, h1, h2, h2b, h3, hb, he, hbl, hhl, hh, hr⟩ C hC
    have hk := hr k List.mem_cons_self
    have hr' : ∀ k ∈ rest, k < 1000 := fun k hk => hr k (List.mem_cons_of_mem _ hk)
    rw [List.length_cons] at hhl
    have l1 := (List.getElem?_eq_some_iff.mp h1).1
    have l2 := (List.getElem?_eq_some_iff.mp h2).1
    have l3 := (List.getElem?_eq_some_iff.mp h3).1
    haveI : Cl S q1 (.dct (bkC b)) := ⟨h1⟩
    haveI : Cl S q2 (.lst ((hs.map hA ++ [bkD (srtB b)]).map W.d)) := ⟨h2⟩
    haveI : Cl S q3 (.lst ((hs.map hV).map W.d)) := ⟨h3⟩
    haveI : Len S S.length := ⟨rfl⟩
    repeat refine Go.h ?_
    refine sp_pot hk fun x y okp => ?_
    repeat refine Go.h ?_
    have kok := bk_keys hb nk.ok nx.ok
    refine deed_draw hk0 (by omega) hx0 (by omega) nx.low hb he (by omega) kok ⟨x, y, by rw [List.getElem?_append_right (Nat.le_refl _), Nat.sub_self]; rfl, okp⟩ (by rw [List.getElem?_append_left l1]; exact h1) (by omega) fun v b' O' hd hc => ?_
    obtain ⟨_, x1, y1, eO, okp1⟩ := hc
    rw [List.set_append_right _ _ (Nat.le_refl _), Nat.sub_self] at eO
    have eO : O' = S ++ [potC x1 y1] := eO
    subst eO
    repeat refine Go.h ?_
    refine go_ix (atI_last (d := bkD (srtB b)) (by simp)) ?_
    repeat refine Go.h ?_
    refine sp_done hnl hksn hb (by omega) nx.low hd ?_
    have hb' := hd.ok hb
    have he' := hd.entG he
    have hl' := hd.len
    have hdd := hd
    repeat (fail_if_success with_reducible show dIf _ _ _ _ _ _ _); refine Go.h ?_
    haveI : St (S ++ [potC x1 y1]) q1 (.dct (bkC b')) (S.set q1 (.dct (bkC b')) ++ [potC x1 y1]) := ⟨List.set_append_left _ _ l1⟩
    refine join_st (fun Γ' S' => Γ' = [some (.d (scr ns)), a1, some (.d (.bool al)), some (.d (lS ws)), some (.d (lS ks)), some (.d (lS xs)), some (.d (fmD fam (srtS (nms fam)))), some (.d (.int (k : Nat))), some (.c q1), some (.c q2), some (.c q3), some (.d v), some (.d (bkD (srtB b')))] ∧ S' = S.set q1 (.dct (bkC b')) ++ [potC x1 y1]) ?_ ?_
    · intro C2 hC2
      cases hd with
      | take h1 h2 h3 =>
        repeat refine Go.h ?_
        rw [show (if false = true then !isNone (W.d PyData.none) else isNone (W.d PyData.none)) = true from rfl]
        repeat refine Go.h ?_
        refine go_cut2 ?_
        repeat refine Go.h ?_
        refine go_popB h3 ?_
        repeat refine Go.h ?_
        exact hC2 _ _ ⟨rfl, rfl⟩
      | @give k n e h1 h2 h3 =>
        obtain ⟨es, rfl, _⟩ := id h3.2.2
        repeat refine Go.h ?_
        rw [show (if false = true then !isNone (W.d (PyData.tuple es)) else isNone (W.d (PyData.tuple es))) = false from rfl]
        repeat refine Go.h ?_
        refine go_cut2 ?_
        repeat refine Go.h ?_
        refine putix_bk (by omega) ?_
        repeat refine Go.h ?_
        exact hC2 _ _ ⟨rfl, rfl⟩
    · rintro Γ' S' ⟨rfl, rfl⟩
      have n12 : q1 ≠ q2 := by omega
      have n13 : q1 ≠ q3 := by omega
      have n23 : q2 ≠ q3 := by omega
      generalize hS1 : S.set q1 (.dct (bkC b')) = S1
      have g1 : S1[q1]? = some (.dct (bkC b')) := by rw [← hS1, List.getElem?_set_self l1]
      have g2 : S1[q2]? = some (.lst ((hs.map hA ++ [bkD (srtB b)]).map W.d)) := by rw [← hS1, List.getElem?_set_ne n12]; exact h2
      have g3 : S1[q3]? = some (.lst ((hs.map hV).map W.d)) := by rw [← hS1, List.getElem?_set_ne n13]; exact h3
      have hSO1 : ∃ L, S1 = O ++ L := by
        obtain ⟨L, rfl⟩ := hSO
        exact ⟨L.set (q1 - O.length) (.dct (bkC b')), by rw [← hS1, List.set_append_right _ _ (by omega)]⟩
      have m1 := (List.getElem?_eq_some_iff.mp g1).1
      have m2 := (List.getElem?_eq_some_iff.mp g2).1
      have m3 := (List.getElem?_eq_some_iff.mp g3).1
      clear hS1
      haveI : Cl S1 q1 (.dct (bkC b')) := ⟨g1⟩
      haveI : Cl S1 q2 (.lst ((hs.map hA ++ [bkD (srtB b)]).map W.d)) := ⟨g2⟩
      haveI : Cl S1 q3 (.lst ((hs.map hV).map W.d)) := ⟨g3⟩
      haveI : Len S1 S1.length := ⟨rfl⟩
      repeat refine Go.h ?_
      refine sp_book_tuple hb' nk.ok nx.ok (by omega) (by rw [List.getElem?_append_left m1]; exact g1) ?_
      repeat refine Go.h ?_
      refine go_neSame (shp_up _ _ (shp_bk (hb'.perm (srtB_perm _)))) ?_
      repeat refine Go.h ?_
      generalize hS2 : S1.set q2 (.lst (((hs.map hA ++ [bkD (srtB b)]) ++ [bkD (srtB b')]).map W.d)) = S2
      haveI : St (S1 ++ [potC x1 y1]) q2 (.lst (((hs.map hA ++ [bkD (srtB b)]) ++ [bkD (srtB b')]).map W.d)) (S2 ++ [potC x1 y1]) := ⟨by rw [List.set_append_left _ _ m2, hS2]⟩
      refine go_append (by simp; omega) (ws' := ((hs.map hA ++ [bkD (srtB b)]) ++ [bkD (srtB b')]).map W.d) (by simp) ?_
      have p1 : S2[q1]? = some (.dct (bkC b')) := by rw [← hS2, List.getElem?_set_ne n12.symm]; exact g1
      have p2 : S2[q2]? = some (.lst (((hs.map hA ++ [bkD (srtB b)]) ++ [bkD (srtB b')]).map W.d)) := by rw [← hS2, List.getElem?_set_self m2]
      have p3 : S2[q3]? = some (.lst ((hs.map hV).map W.d)) := by rw [← hS2, List.getElem?_set_ne n23]; exact g3
      have hSO2 : ∃ L, S2 = O ++ L := by
        obtain ⟨L, rfl⟩ := hSO1
        exact ⟨L.set (q2 - O.length) _, by rw [← hS2, List.set_append_right _ _ (by omega)]⟩
      have r3 := (List.getElem?_eq_some_iff.mp p3).1
      clear hS2
      haveI : Cl S2 q3 (.lst ((hs.map hV).map W.d)) := ⟨p3⟩
      repeat refine Go.h ?_
      generalize hS3 : S2.set q3 (.lst ((hs.map hV ++ [v]).map W.d)) = S3
      haveI : St (S2 ++ [potC x1 y1]) q3 (.lst ((hs.map hV ++ [v]).map W.d)) (S3 ++ [potC x1 y1]) := ⟨by rw [List.set_append_left _ _ r3, hS3]⟩
      refine go_append (by simp; omega) (ws' := (hs.map hV ++ [v]).map W.d) (by simp) ?_
      repeat refine Go.h ?_
      have t1 : S3[q1]? = some (.dct (bkC b')) := by rw [← hS3, List.getElem?_set_ne n13.symm]; exact p1
      have t2 : S3[q2]? = some (.lst (((hs.map hA ++ [bkD (srtB b)]) ++ [bkD (srtB b')]).map W.d)) := by rw [← hS3, List.getElem?_set_ne n23.symm]; exact p2
      have t3 : S3[q3]? = some (.lst ((hs.map hV ++ [v]).map W.d)) := by rw [← hS3, List.getElem?_set_self r3]
      have up : ∀ {j : Nat} {c : Cell}, S3[j]? = some c → (S3 ++ [potC x1 y1])[j]? = some c := fun {j c} e => by rw [List.getElem?_append_left (List.getElem?_eq_some_iff.mp e).1]; exact e
      refine hC _ _ ⟨_, _, _, _, b', hs ++ [(b, v, b')], rfl, ?_, up t1, ?_, ?_, ?_, hb', he', by simp; omega, by simp; omega, ?_, hr'⟩
      · obtain ⟨L, rfl⟩ := hSO2
        exact ⟨L.set (q3 - O.length) (.lst ((hs.map hV ++ [v]).map W.d)) ++ [potC x1 y1], by rw [← hS3, List.set_append_right _ _ (by omega)]; simp⟩
      · rw [up t2]; simp [hA]
      · rw [List.map_append, List.map_append]
        show hs.map hA ++ [bkD (srtB b)] ++ [bkD (srtB b')] = _
        rw [h2b]; rfl
      · rw [up t3]; simp [hV]
      · intro r hr2
        rcases List.mem_append.mp hr2 with hr2 | hr2
        · exact hh r hr2
        · rw [List.mem_singleton.mp hr2]
          exact ⟨hb, by show b.length ≤ 1000; omega, hdd⟩
theorem law_true : ∀ (ns : List Int), ns.length ≤ 63 → ∀ (R : DK) (xe : Exn → Oh → Prop), (∀ O', R (.d (.bool true)) O') → w_law [.d (.dict [(.none, .list (ns.map PyData.int))])] [] R xe := fun ns _ R xe h => law_all h
end Dl
namespace Dl
open PySem PySem.Spec PyProof.Rows L2
def topS (i : Nat) : Stmt := PySem.Challenge.pw_parentlines_k33_given_and_taken.main.body.getD i (.Pass ⟨0, 0, 0, 0⟩)
section
variable [TabsC] {P : Program} {w : World} {K : Fg} {mg : Str → Option Value} {base : Heap}
abbrev s_is_name : Stmt := topS 3
theorem sc_is_name : FnScope ["thing", "sign"] ["thing"] (defScope s_is_name) := ⟨rfl, rfl, rfl, by decide +kernel, rfl, by decide +kernel, by decide +kernel⟩
theorem ok_is_name {f : Addr} {fd : FuncData} (F : Fun K "is_name" "is_name" s_is_name f fd) (nb : NB mg) (C_LETTERS : ∃ t, mg "LETTERS" = some (.str "abcdefghijklmnopqrstuvwxyz" t)) (C_MOST_LETTERS : ∃ t, mg "MOST_LETTERS" = some (.int 8 t)) : FnOk P w K mg base (L2N.CX P w) 1 f fd ["thing"] (liftF K mg w_is_name) :=
  ok_def (k := 0) F sc_is_name fun cdv A outer s H E g =>
  (dss_cons (ds_if (DW.t (dw_or (dt_not (dt_val (de_isi (T := "str") (by simp) (by decide +kernel) nb.isinstance nb.str (de_var 0) (by decide +kernel)))) (dw_or1 (dt_not (dt_chain op_le s_le op_le s_le de_int (de_callB call_len3 s_len nb.len (by decide +kernel) (da_cons (de_var 0) da_nil)) (de_gint C_MOST_LETTERS))))))
   (dss_one (ds_ret de_bl))
   dss_nil)
  (dss_one (ds_ret (de_callB (cr_all g.calm) s_all nb.all (by decide +kernel) (da_cons (de_lc g (own := [("sign", 1)]) (.nm 1) (by decide) (di_str (de_var 0)) (blk_ok (by kernel_rfl)) (fun s H C cl fp => (pg_name (i := 1) g.nd rfl (by first | exact Or.inl rfl | exact Or.inr rfl))) (fun s H C cl fp g => dts_nil) (fun s H C cl fp g => (de_cmp (op_in5 g) s_in2 (de_var 1) (de_gstr C_LETTERS (by decide +kernel))))) da_nil)))))
abbrev s_is_whole : Stmt := topS 4
theorem sc_is_whole : FnScope ["thing"] ["thing"] (defScope s_is_whole) := ⟨rfl, rfl, rfl, by decide +kernel, rfl, by decide +kernel, by decide +kernel⟩
theorem ok_is_whole {f : Addr} {fd : FuncData} (F : Fun K "is_whole" "is_whole" s_is_whole f fd) (nb : NB mg) : FnOk P w K mg base (L2N.CX P w) 1 f fd ["thing"] (liftF K mg w_is_whole) :=
  ok_def (k := 0) F sc_is_whole fun cdv A outer s H E g =>
  (dss_one (ds_ret (de_and (de_isi (T := "int") (by simp) (by decide +kernel) nb.isinstance nb.int (de_var 0) (by decide +kernel)) (de_one (de_not (de_isi (T := "bool") (by simp) (by decide +kernel) nb.isinstance nb.bool (de_var 0) (by decide +kernel)))))))
abbrev s_is_step : Stmt := topS 8
theorem sc_is_step : FnScope ["thing", "word", "told"] ["thing"] (defScope s_is_step) := ⟨rfl, rfl, rfl, by decide +kernel, rfl, by decide +kernel, by decide +kernel⟩
theorem ok_is_step {f : Addr} {fd : FuncData} (F : Fun K "is_step" "is_step" s_is_step f fd) (nb : NB mg) (C_MOST_TIMES : ∃ t, mg "MOST_TIMES" = some (.int 9 t)) (T_is_name : Has P w K mg base "is_name" ["thing"] 1 w_is_name) (T_is_whole : Has P w K mg base "is_whole" ["thing"] 1 w_is_whole) : FnOk P w K mg base (L2N.CX P w) 2 f fd ["thing"] (liftF K mg w_is_step) :=
  ok_def (k := 1) F sc_is_step fun cdv A outer s H E g =>
  (dss_cons (ds_if (dt_cmp (op_eqG g) s_eq (de_var 0) (de_tup (da_cons de_str da_nil)))
   (dss_one (ds_ret de_bl))
   dss_nil)
  (dss_cons (ds_if (DW.t (dw_or (dt_not (dt_val (de_isi (T := "tuple") (by simp) (by decide +kernel) nb.isinstance nb.tuple (de_var 0) (by decide +kernel)))) (dw_or1 (dt_cmp (op_neG g) s_ne (de_callB call_len3 s_len nb.len (by decide +kernel) (da_cons (de_var 0) da_nil)) de_int))))
   (dss_one (ds_ret de_bl))
   dss_nil)
  (dss_cons (ds_asg (.tup [(.nm 1), (.nm 2)]) (de_var 0) (pg_tup g.calm (pgs_cons (pg_name (i := 1) g.nd rfl (by first | exact Or.inl rfl | exact Or.inr rfl)) (pgs_cons (pg_name (i := 2) g.nd rfl (by first | exact Or.inl rfl | exact Or.inr rfl)) pgs_nil))))
  (dss_cons (ds_if (dt_cmp (op_eqG g) s_eq (de_var 1) de_str)
   (dss_one (ds_ret (de_call0 g T_is_name (by decide) (da_cons (de_var 2) da_nil))))
   dss_nil)
  (dss_cons (ds_if (dt_cmp (op_eqG g) s_eq (de_var 1) de_str)
   (dss_one (ds_ret (de_and (de_call0 g T_is_whole (by decide) (da_cons (de_var 2) da_nil)) (de_one (de_chain op_le s_le op_le s_le (de_neg (de_gint C_MOST_TIMES)) (de_var 2) (de_gint C_MOST_TIMES))))))
   dss_nil)
  (dss_one (ds_ret (de_and (de_cmp (op_eqG g) s_eq (de_var 1) de_str) (de_one (de_call0 g T_is_whole (by decide) (da_cons (de_var 2) da_nil)))))))))))
abbrev s_are_steps : Stmt := topS 9
theorem sc_are_steps : FnScope ["thing", "one"] ["thing"] (defScope s_are_steps) := ⟨rfl, rfl, rfl, by decide +kernel, rfl, by decide +kernel, by decide +kernel⟩
theorem ok_are_steps {f : Addr} {fd : FuncData} (F : Fun K "are_steps" "are_steps" s_are_steps f fd) (nb : NB mg) (C_MOST_STEPS : ∃ t, mg "MOST_STEPS" = some (.int 4 t)) (T_is_step : Has P w K mg base "is_step" ["thing"] 2 w_is_step) : FnOk P w K mg base (L2N.CX P w) 3 f fd ["thing"] (liftF K mg w_are_steps) :=
  ok_def (k := 2) F sc_are_steps fun cdv A outer s H E g =>
  (dss_one (ds_ret (de_and (de_isi (T := "tuple") (by simp) (by decide +kernel) nb.isinstance nb.tuple (de_var 0) (by decide +kernel)) (de_and (de_cmp op_le s_le (de_callB call_len3 s_len nb.len (by decide +kernel) (da_cons (de_var 0) da_nil)) (de_gint C_MOST_STEPS)) (de_one (de_callB (cr_all g.calm) s_all nb.all (by decide +kernel) (da_cons (de_lc g (own := [("one", 1)]) (.nm 1) (by decide) (di_seq (de_var 0)) (blk_ok (by kernel_rfl)) (fun s H C cl fp => (pg_name (i := 1) g.nd rfl (by first | exact Or.inl rfl | exact Or.inr rfl))) (fun s H C cl fp g => dts_nil) (fun s H C cl fp g => (de_call0 g T_is_step (by decide) (da_cons (de_var 1) da_nil)))) da_nil)))))))
abbrev s_is_entry : Stmt := topS 10
theorem sc_is_entry : FnScope ["thing"] ["thing"] (defScope s_is_entry) := ⟨rfl, rfl, rfl, by decide +kernel, rfl, by decide +kernel, by decide +kernel⟩
theorem ok_is_entry {f : Addr} {fd : FuncData} (F : Fun K "is_entry" "is_entry" s_is_entry f fd) (nb : NB mg) (T_are_steps : Has P w K mg base "are_steps" ["thing"] 3 w_are_steps) (T_is_name : Has P w K mg base "is_name" ["thing"] 1 w_is_name) (T_is_whole : Has P w K mg base "is_whole" ["thing"] 1 w_is_whole) : FnOk P w K mg base (L2N.CX P w) 4 f fd ["thing"] (liftF K mg w_is_entry) :=
  ok_def (k := 3) F sc_is_entry fun cdv A outer s H E g =>
  (dss_cons (ds_if (dt_not (dt_val (de_isi (T := "tuple") (by simp) (by decide +kernel) nb.isinstance nb.tuple (de_var 0) (by decide +kernel))))
   (dss_one (ds_ret de_bl))
   dss_nil)
  (dss_cons (ds_if (dt_cmp (op_eqG g) s_eq (de_callB call_len3 s_len nb.len (by decide +kernel) (da_cons (de_var 0) da_nil)) de_int)
   (dss_one (ds_ret (de_and (de_cmp (op_eqG g) s_eq (de_ix2 g (de_var 0) de_int) de_str) (de_and (de_call0 g T_is_name (by decide) (da_cons (de_ix2 g (de_var 0) de_int) da_nil)) (de_one (de_call0 g T_is_whole (by decide) (da_cons (de_ix2 g (de_var 0) de_int) da_nil)))))))
   dss_nil)
  (dss_cons (ds_if (dt_cmp (op_neG g) s_ne (de_callB call_len3 s_len nb.len (by decide +kernel) (da_cons (de_var 0) da_nil)) de_int)
   (dss_one (ds_ret de_bl))
   dss_nil)
  (dss_cons (ds_if (dt_cmp (op_eqG g) s_eq (de_ix2 g (de_var 0) de_int) de_str)
   (dss_one (ds_ret (de_call0 g T_is_whole (by decide) (da_cons (de_ix2 g (de_var 0) de_int) da_nil))))
   dss_nil)
  (dss_one (ds_ret (de_and (de_cmp (op_in5 g) s_in2 (de_ix2 g (de_var 0) de_int) (de_tup (da_cons de_str (da_cons de_str da_nil)))) (de_one (de_call0 g T_are_steps (by decide) (da_cons (de_ix2 g (de_var 0) de_int) da_nil))))))))))
abbrev s_kinds_of : Stmt := topS 17
theorem sc_kinds_of : FnScope ["family", "kind", "parents"] ["family"] (defScope s_kinds_of) := ⟨rfl, rfl, rfl, by decide +kernel, rfl, by decide +kernel, by decide +kernel⟩
theorem ok_kinds_of {f : Addr} {fd : FuncData} (F : Fun K "kinds_of" "kinds_of" s_kinds_of f fd) (nb : NB mg) : FnOk P w K mg base (L2N.CX P w) 1 f fd ["family"] (liftF K mg w_kinds_of) :=
  ok_def (k := 0) F sc_kinds_of fun cdv A outer s H E g =>
  (dss_one (ds_ret (de_lc g (own := [("kind", 1), ("parents", 2)]) (.tup [(.nm 1), (.nm 2)]) (by decide) (di_seq (de_var 0)) (blk_ok (by kernel_rfl)) (fun s H C cl fp => (pg_tup g.calm (pgs_cons (pg_name (i := 1) g.nd rfl (by first | exact Or.inl rfl | exact Or.inr rfl)) (pgs_cons (pg_name (i := 2) g.nd rfl (by first | exact Or.inl rfl | exact Or.inr rfl)) pgs_nil)))) (fun s H C cl fp g => dts_nil) (fun s H C cl fp g => (de_var 1)))))
abbrev s_need_kind : Stmt := topS 18
theorem sc_need_kind : FnScope ["family", "kind"] ["family", "kind"] (defScope s_need_kind) := ⟨rfl, rfl, rfl, by decide +kernel, rfl, by decide +kernel, by decide +kernel⟩
theorem ok_need_kind {f : Addr} {fd : FuncData} (F : Fun K "need_kind" "need_kind" s_need_kind f fd) (nb : NB mg) (T_kinds_of : Has P w K mg base "kinds_of" ["family"] 1 w_kinds_of) (X_NoKind : XC0 K mg "NoKind") : FnOk P w K mg base (L2N.CX P w) 2 f fd ["family", "kind"] (liftF K mg w_need_kind) :=
  ok_def (k := 1) F sc_need_kind fun cdv A outer s H E g =>
  (dss_one (ds_if (dt_cmp (op_niL g) s_niL (de_var 1) (de_call0 g T_kinds_of (by decide) (da_cons (de_var 0) da_nil)))
   (dss_one (ds_raise0 g X_NoKind))
   dss_nil))
abbrev s_entry_of : Stmt := topS 20
theorem sc_entry_of : FnScope ["book", "kind", "name", "one", "word", "entry"] ["book", "kind", "name"] (defScope s_entry_of) := ⟨rfl, rfl, rfl, by decide +kernel, rfl, by decide +kernel, by decide +kernel⟩
theorem ok_entry_of {f : Addr} {fd : FuncData} (F : Fun K "entry_of" "entry_of" s_entry_of f fd) (nb : NB mg) : FnOk P w K mg base (L2N.CX P w) 1 f fd ["book", "kind", "name"] (liftF K mg w_entry_of) :=
  ok_def (k := 0) F sc_entry_of fun cdv A outer s H E g =>
  (dss_cons (ds_for g (.tup [(.nm 3), (.nm 4), (.nm 5)]) (di_seq (de_var 0)) (pg_tup g.calm (pgs_cons (pg_name (i := 3) g.nd rfl (by first | exact Or.inl rfl | exact Or.inr rfl)) (pgs_cons (pg_name (i := 4) g.nd rfl (by first | exact Or.inl rfl | exact Or.inr rfl)) (pgs_cons (pg_name (i := 5) g.nd rfl (by first | exact Or.inl rfl | exact Or.inr rfl)) pgs_nil))))
   (dss_one (ds_if (DW.t (dw_and (dt_cmp (op_eqG g) s_eq (de_var 3) (de_var 1)) (dw_and1 (dt_cmp (op_eqG g) s_eq (de_var 4) (de_var 2)))))
    (dss_one (ds_ret (de_var 5)))
    dss_nil)))
  (dss_one (ds_ret de_non)))
abbrev s_book_without : Stmt := topS 21
theorem sc_book_without : FnScope ["book", "kind", "name", "row"] ["book", "kind", "name"] (defScope s_book_without) := ⟨rfl, rfl, rfl, by decide +kernel, rfl, by decide +kernel, by decide +kernel⟩
theorem ok_book_without {f : Addr} {fd : FuncData} (F : Fun K "book_without" "book_without" s_book_without f fd) (nb : NB mg) : FnOk P w K mg base (L2N.CX P w) 1 f fd ["book", "kind", "name"] (liftF K mg w_book_without) :=
  ok_def (k := 0) F sc_book_without fun cdv A outer s H E g =>
  (dss_one (ds_ret (de_lc g (own := [("row", 3)]) (.nm 3) (by decide) (di_seq (de_var 0)) (blk_ok (by kernel_rfl)) (fun s H C cl fp => (pg_name (i := 3) g.nd rfl (by first | exact Or.inl rfl | exact Or.inr rfl))) (fun s H C cl fp g => (dts_one (dt_cmp (op_neG g) s_ne (de_slice (de_var 3) do_none (do_some de_int)) (de_tup (da_cons (de_var 1) (da_cons (de_var 2) da_nil)))))) (fun s H C cl fp g => (de_var 3)))))
abbrev s_name_given : Stmt := topS 22
theorem sc_name_given : FnScope ["family", "book", "kind", "name", "entry"] ["family", "book", "kind", "name", "entry"] (defScope s_name_given) := ⟨rfl, rfl, rfl, by decide +kernel, rfl, by decide +kernel, by decide +kernel⟩
theorem ok_name_given {f : Addr} {fd : FuncData} (F : Fun K "name_given" "name_given" s_name_given f fd) (nb : NB mg) (T_book_without : Has P w K mg base "book_without" ["book", "kind", "name"] 1 w_book_without) (T_is_entry : Has P w K mg base "is_entry" ["thing"] 4 w_is_entry) (T_is_name : Has P w K mg base "is_name" ["thing"] 1 w_is_name) (T_need_kind : Has P w K mg base "need_kind" ["family", "kind"] 2 w_need_kind) (X_NoEntry : XC0 K mg "NoEntry") (X_NoName : XC0 K mg "NoName") {c_name_given P_name_given : Addr} (hc_name_given : fd.code = .ref c_name_given) (TB_name_given : LamX.TabB base mg c_name_given P_name_given) (ml_name_given : (P_name_given, ("name_given.<locals>.<lambda>" : Str)) ∈ TabsC.T) (mu_name_given : ∀ p ∈ TabsC.T, p.1 = P_name_given → p.2 = ("name_given.<locals>.<lambda>" : Str)) : FnOk P w K mg base (L2N.CX P w) 5 f fd ["family", "book", "kind", "name", "entry"] (liftF K mg w_name_given) :=
  ok_defL (k := 4) F sc_name_given hc_name_given fun A outer s H E g =>
  (dss_cons (ds_expr (de_callH g T_need_kind (by decide) (da_cons (de_var 0) (da_cons (de_var 2) da_nil))))
  (dss_cons (ds_if (dt_not (dt_val (de_call0 g T_is_name (by decide) (da_cons (de_var 3) da_nil))))
   (dss_one (ds_raise0 g X_NoName))
   dss_nil)
  (dss_cons (ds_if (dt_not (dt_val (de_call0 g T_is_entry (by decide) (da_cons (de_var 4) da_nil))))
   (dss_one (ds_raise0 g X_NoEntry))
   dss_nil)
  (dss_one (ds_ret (de_callTy call_tupOf s_tupOf nb.tuple (by decide +kernel) (da_cons (de_sortK2 (c := c_name_given) (P := P_name_given) g TB_name_given rfl (by exact ml_name_given) (by exact mu_name_given) (by exact ⟨fun _ _ _ _ _ _ _ => rfl, by decide +kernel, by decide +kernel, rfl, rfl, rfl, rfl, rfl, fun _ _ _ _ _ => rfl⟩) nb.sorted (da_cons (de_op op_add4 s_add (de_call0 g T_book_without (by decide) (da_cons (de_var 1) (da_cons (de_var 2) (da_cons (de_var 3) da_nil)))) (de_lst (da_cons (de_tup (da_cons (de_var 2) (da_cons (de_var 3) (da_cons (de_var 4) da_nil)))) da_nil))) da_nil)) da_nil)))))))
abbrev s_name_taken : Stmt := topS 23
theorem sc_name_taken : FnScope ["family", "book", "kind", "name"] ["family", "book", "kind", "name"] (defScope s_name_taken) := ⟨rfl, rfl, rfl, by decide +kernel, rfl, by decide +kernel, by decide +kernel⟩
theorem ok_name_taken {f : Addr} {fd : FuncData} (F : Fun K "name_taken" "name_taken" s_name_taken f fd) (nb : NB mg) (T_book_without : Has P w K mg base "book_without" ["book", "kind", "name"] 1 w_book_without) (T_entry_of : Has P w K mg base "entry_of" ["book", "kind", "name"] 1 w_entry_of) (T_is_name : Has P w K mg base "is_name" ["thing"] 1 w_is_name) (T_need_kind : Has P w K mg base "need_kind" ["family", "kind"] 2 w_need_kind) (X_NoName : XC0 K mg "NoName") : FnOk P w K mg base (L2N.CX P w) 3 f fd ["family", "book", "kind", "name"] (liftF K mg w_name_taken) :=
  ok_def (k := 2) F sc_name_taken fun cdv A outer s H E g =>
  (dss_cons (ds_expr (de_callH g T_need_kind (by decide) (da_cons (de_var 0) (da_cons (de_var 2) da_nil))))
  (dss_cons (ds_if (DW.t (dw_or (dt_not (dt_val (de_call0 g T_is_name (by decide) (da_cons (de_var 3) da_nil)))) (dw_or1 (dt_cmp op_is2 s_is2 (de_call0 g T_entry_of (by decide) (da_cons (de_var 1) (da_cons (de_var 2) (da_cons (de_var 3) da_nil)))) de_non))))
   (dss_one (ds_raise0 g X_NoName))
   dss_nil)
  (dss_one (ds_ret (de_callTy call_tupOf s_tupOf nb.tuple (by decide +kernel) (da_cons (de_call0 g T_book_without (by decide) (da_cons (de_var 1) (da_cons (de_var 2) (da_cons (de_var 3) da_nil)))) da_nil))))))
abbrev s__law_pot : Stmt := topS 25
theorem sc__law_pot : FnScope ["_law_script", "_law_k", "_law_cell"] ["_law_script", "_law_k"] (defScope s__law_pot) := ⟨rfl, rfl, rfl, by decide +kernel, rfl, by decide +kernel, by decide +kernel⟩
theorem ok__law_pot {f : Addr} {fd : FuncData} (F : Fun K "_law_pot" "_law_pot" s__law_pot f fd) (nb : NB mg) : FnOk P w K mg base (L2N.CX P w) 1 f fd ["_law_script", "_law_k"] (liftF K mg w__law_pot) :=
  ok_defC (k := 0) F sc__law_pot fun cdv A outer s H E g =>
  (dss_cons (ds_set g rfl (by first | exact Or.inl rfl | exact Or.inr rfl) de_int)
  (dss_cons (ds_if (dt_cmp (op_lt2 g) s_lt2 (de_var 1) (de_callB call_len3 s_len nb.len (by decide +kernel) (da_cons (de_var 0) da_nil)))
   (dss_one (ds_set g rfl (by first | exact Or.inl rfl | exact Or.inr rfl) (de_ix2 g (de_var 0) (de_var 1))))
   dss_nil)
  (dss_one (ds_ret (de_lstC (da_cons (de_callB (call_max2 g.calm) s_max nb.max (by decide +kernel) (da_cons de_int (da_cons (de_op op_sub s_sub (de_callB call_abs s_abs nb.abs (by decide +kernel) (da_cons (de_var 2) da_nil)) (de_op op_pow s_pow de_int de_int)) da_nil))) (da_cons (de_op op_add4 s_add (de_op op_add4 s_add (de_op op_mod s_mod (de_callB call_abs s_abs nb.abs (by decide +kernel) (da_cons (de_var 2) da_nil)) de_int) (de_op op_mul s_mul de_int (de_var 1))) de_int) da_nil)))))))
abbrev s__law_digit : Stmt := topS 26
theorem sc__law_digit : FnScope ["_law_pot_here", "_law_many", "_law_digit_here"] ["_law_pot_here", "_law_many"] (defScope s__law_digit) := ⟨rfl, rfl, rfl, by decide +kernel, rfl, by decide +kernel, by decide +kernel⟩
theorem ok__law_digit {f : Addr} {fd : FuncData} (F : Fun K "_law_digit" "_law_digit" s__law_digit f fd) (nb : NB mg) : FnOk P w K mg base (L2N.CX P w) 1 f fd ["_law_pot_here", "_law_many"] (liftF K mg w__law_digit) :=
  ok_def (k := 0) F sc__law_digit fun cdv A outer s H E g =>
  (dss_cons (ds_if (dt_cmp (op_gt2 g) s_gt2 (de_ix2 g (de_var 0) de_int) de_int)
   (dss_cons (ds_set g rfl (by first | exact Or.inl rfl | exact Or.inr rfl) (de_op op_mod s_mod (de_ix2 g (de_var 0) de_int) (de_var 1)))
   (dss_cons (ds_setI g (de_var 0) de_int (de_op op_fdivW s_div (de_ix2 g (de_var 0) de_int) (de_var 1)))
   (dss_one (ds_ret (de_var 2)))))
   dss_nil)
  (dss_cons (ds_setI g (de_var 0) de_int (de_op op_mod s_mod (de_op op_add4 s_add (de_op op_mul s_mul (de_ix2 g (de_var 0) de_int) de_int) de_int) de_int))
  (dss_one (ds_ret (de_op op_mod s_mod (de_op op_fdivW s_div (de_op op_mod s_mod (de_op op_mul s_mul (de_ix2 g (de_var 0) de_int) (de_ix2 g (de_var 0) de_int)) de_int) de_int) (de_var 1))))))
abbrev s__law_names : Stmt := topS 27
theorem sc__law_names : FnScope ["_law_pot_here", "_law_many", "_law_letters", "_law_found", "_law_k", "_law_size", "_law_name", "_law_some", "_law_turn", "_law_one"] ["_law_pot_here", "_law_many"] (defScope s__law_names) := ⟨rfl, rfl, rfl, by decide +kernel, rfl, by decide +kernel, by decide +kernel⟩
theorem ok__law_names {f : Addr} {fd : FuncData} (F : Fun K "_law_names" "_law_names" s__law_names f fd) (nb : NB mg) (T__law_digit : Has P w K mg base "_law_digit" ["_law_pot_here", "_law_many"] 1 w__law_digit) : FnOk P w K mg base (L2N.CX P w) 2 f fd ["_law_pot_here", "_law_many"] (liftF K mg w__law_names) :=
  ok_def (k := 1) F sc__law_names fun cdv A outer s H E g =>
  (dss_cons (ds_set g rfl (by first | exact Or.inl rfl | exact Or.inr rfl) de_str)
  (dss_cons (ds_set g rfl (by first | exact Or.inl rfl | exact Or.inr rfl) (de_lstC da_nil))
  (dss_cons (ds_for g (.nm 4) (di_rng1 nb.range (da_cons (de_var 1) da_nil)) (pg_name (i := 4) g.nd rfl (by first | exact Or.inl rfl | exact Or.inr rfl))
   (dss_cons (ds_set g rfl (by first | exact Or.inl rfl | exact Or.inr rfl) (de_op op_add4 s_add de_int (de_call0 g T__law_digit (by decide) (da_cons (de_var 0) (da_cons (de_ix2 g (de_lst (da_cons de_int (da_cons de_int (da_cons de_int da_nil)))) (de_call0 g T__law_digit (by decide) (da_cons (de_var 0) (da_cons de_int da_nil)))) da_nil)))))
   (dss_cons (ds_set g rfl (by first | exact Or.inl rfl | exact Or.inr rfl) (de_join de_str (de_lc g (own := [("_law_turn", 8)]) (.nm 8) (by decide) (di_rng1 nb.range (da_cons (de_var 5) da_nil)) (blk_ok (by kernel_rfl)) (fun s H C cl fp => (pg_name (i := 8) g.nd rfl (by first | exact Or.inl rfl | exact Or.inr rfl))) (fun s H C cl fp g => dts_nil) (fun s H C cl fp g => (de_ix2 g (de_var 2) (de_call0 g T__law_digit (by decide) (da_cons (de_var 0) (da_cons de_int da_nil))))))))
   (dss_cons (ds_if (dt_cmp (op_in5 g) s_in2 (de_var 6) (de_var 3))
    (dss_cons (by first | exact ds_setLc g rfl rfl (sw_true rfl rfl rfl (by decide +kernel)) (own := [("_law_turn", 8)]) (.nm 8) (by decide) (di_rng1 nb.range (da_cons (de_op op_add4 s_add (de_var 1) de_int) da_nil)) (blk_ok (by kernel_rfl)) (fun s H C cl fp => (pg_name (i := 8) g.nd rfl (by first | exact Or.inl rfl | exact Or.inr rfl))) (fun s H C cl fp g => dts_nil) (fun s H C cl fp g => (de_op op_add4 s_add (de_op op_add4 s_add (de_slice (de_var 6) do_none (do_some de_int)) (de_ix2 g (de_var 2) (de_var 8))) de_str)) | exact ds_set g rfl (by first | exact Or.inl rfl | exact Or.inr rfl) (de_lc g (own := [("_law_turn", 8)]) (.nm 8) (by decide) (di_rng1 nb.range (da_cons (de_op op_add4 s_add (de_var 1) de_int) da_nil)) (blk_ok (by kernel_rfl)) (fun s H C cl fp => (pg_name (i := 8) g.nd rfl (by first | exact Or.inl rfl | exact Or.inr rfl))) (fun s H C cl fp g => dts_nil) (fun s H C cl fp g => (de_op op_add4 s_add (de_op op_add4 s_add (de_slice (de_var 6) do_none (do_some de_int)) (de_ix2 g (de_var 2) (de_var 8))) de_str))))
    (dss_one (ds_set g rfl (by first | exact Or.inl rfl | exact Or.inr rfl) (de_ix2 g (de_lc g (own := [("_law_one", 9)]) (.nm 9) (by decide) (di_seq (de_var 7)) (blk_ok (by kernel_rfl)) (fun s H C cl fp => (pg_name (i := 9) g.nd rfl (by first | exact Or.inl rfl | exact Or.inr rfl))) (fun s H C cl fp g => (dts_one (dt_cmp (op_notin5 g) s_in2 (de_var 9) (de_var 3)))) (fun s H C cl fp g => (de_var 9))) de_int))))
    dss_nil)
   (dss_one (ds_expr (de_bm PySem.F.plainAttrs_list PySem.F.slot_list_append PySem.F.type_list_append mt_append s_append tw_list (de_var 3) (da_cons (de_var 6) da_nil))))))))
  (dss_one (ds_ret (de_var 3))))))
abbrev s__law_merged : Stmt := topS 28
theorem sc__law_merged : FnScope ["_law_rows", "_law_left", "_law_found", "_law_free", "_law_row", "_law_name", "_law_other"] ["_law_rows"] (defScope s__law_merged) := ⟨rfl, rfl, rfl, by decide +kernel, rfl, by decide +kernel, by decide +kernel⟩
theorem ok__law_merged {f : Addr} {fd : FuncData} (F : Fun K "_law_merged" "_law_merged" s__law_merged f fd) (nb : NB mg) : FnOk P w K mg base (L2N.CX P w) 1 f fd ["_law_rows"] (liftF K mg w__law_merged) :=
  ok_def (k := 0) F sc__law_merged fun cdv A outer s H E g =>
  (dss_cons (by first | exact ds_setLc g rfl rfl (sw_true rfl rfl rfl (by decide +kernel)) (own := [("_law_row", 4)]) (.nm 4) (by decide) (di_seq (de_var 0)) (blk_ok (by kernel_rfl)) (fun s H C cl fp => (pg_name (i := 4) g.nd rfl (by first | exact Or.inl rfl | exact Or.inr rfl))) (fun s H C cl fp g => dts_nil) (fun s H C cl fp g => (de_callTy (call_list2 g.calm) s_listOf2 nb.list (by decide +kernel) (da_cons (de_var 4) da_nil))) | exact ds_set g rfl (by first | exact Or.inl rfl | exact Or.inr rfl) (de_lc g (own := [("_law_row", 4)]) (.nm 4) (by decide) (di_seq (de_var 0)) (blk_ok (by kernel_rfl)) (fun s H C cl fp => (pg_name (i := 4) g.nd rfl (by first | exact Or.inl rfl | exact Or.inr rfl))) (fun s H C cl fp g => dts_nil) (fun s H C cl fp g => (de_callTy (call_list2 g.calm) s_listOf2 nb.list (by decide +kernel) (da_cons (de_var 4) da_nil)))))
  (dss_cons (ds_set g rfl (by first | exact Or.inl rfl | exact Or.inr rfl) (de_lstC da_nil))
  (dss_cons (ds_while g (dt_val (de_callB (cr_any g.calm) s_any nb.any (by decide +kernel) (da_cons (de_lc g (own := [("_law_row", 4)]) (.nm 4) (by decide) (di_seq (de_var 1)) (blk_ok (by kernel_rfl)) (fun s H C cl fp => (pg_name (i := 4) g.nd rfl (by first | exact Or.inl rfl | exact Or.inr rfl))) (fun s H C cl fp g => dts_nil) (fun s H C cl fp g => (de_cmp (op_neG g) s_ne (de_var 4) (de_lst da_nil)))) da_nil)))
   (dss_cons (by first | exact ds_setLc g rfl rfl (sw_true rfl rfl rfl (by decide +kernel)) (own := [("_law_row", 4)]) (.nm 4) (by decide) (di_seq (de_var 1)) (blk_ok (by kernel_rfl)) (fun s H C cl fp => (pg_name (i := 4) g.nd rfl (by first | exact Or.inl rfl | exact Or.inr rfl))) (fun s H C cl fp g => (dts_one (DW.t (dw_and (dt_cmp (op_neG g) s_ne (de_var 4) (de_lst da_nil)) (dw_and1 (dt_not (dt_val (de_callB (cr_any g.calm) s_any nb.any (by decide +kernel) (da_cons (de_lc g (own := [("_law_other", 6)]) (.nm 6) (by decide) (di_seq (de_var 1)) (blk_ok (by kernel_rfl)) (fun s H C cl fp => (pg_name (i := 6) g.nd rfl (by first | exact Or.inl rfl | exact Or.inr rfl))) (fun s H C cl fp g => dts_nil) (fun s H C cl fp g => (de_cmp (op_in5 g) s_in2 (de_ix2 g (de_var 4) de_int) (de_slice (de_var 6) (do_some de_int) do_none)))) da_nil))))))))) (fun s H C cl fp g => (de_ix2 g (de_var 4) de_int)) | exact ds_set g rfl (by first | exact Or.inl rfl | exact Or.inr rfl) (de_lc g (own := [("_law_row", 4)]) (.nm 4) (by decide) (di_seq (de_var 1)) (blk_ok (by kernel_rfl)) (fun s H C cl fp => (pg_name (i := 4) g.nd rfl (by first | exact Or.inl rfl | exact Or.inr rfl))) (fun s H C cl fp g => (dts_one (DW.t (dw_and (dt_cmp (op_neG g) s_ne (de_var 4) (de_lst da_nil)) (dw_and1 (dt_not (dt_val (de_callB (cr_any g.calm) s_any nb.any (by decide +kernel) (da_cons (de_lc g (own := [("_law_other", 6)]) (.nm 6) (by decide) (di_seq (de_var 1)) (blk_ok (by kernel_rfl)) (fun s H C cl fp => (pg_name (i := 6) g.nd rfl (by first | exact Or.inl rfl | exact Or.inr rfl))) (fun s H C cl fp g => dts_nil) (fun s H C cl fp g => (de_cmp (op_in5 g) s_in2 (de_ix2 g (de_var 4) de_int) (de_slice (de_var 6) (do_some de_int) do_none)))) da_nil))))))))) (fun s H C cl fp g => (de_ix2 g (de_var 4) de_int))))
   (dss_cons (ds_if (dt_cmp (op_eqG g) s_eq (de_var 3) (de_lst da_nil))
    (dss_one (ds_ret de_non))
    dss_nil)
   (dss_cons (ds_expr (de_bm PySem.F.plainAttrs_list PySem.F.slot_list_append PySem.F.type_list_append mt_append s_append tw_list (de_var 2) (da_cons (de_ix2 g (de_var 3) de_int) da_nil)))
   (dss_one (by first | exact ds_setLc g rfl rfl (sw_true rfl rfl rfl (by decide +kernel)) (own := [("_law_row", 4)]) (.nm 4) (by decide) (di_seq (de_var 1)) (blk_ok (by kernel_rfl)) (fun s H C cl fp => (pg_name (i := 4) g.nd rfl (by first | exact Or.inl rfl | exact Or.inr rfl))) (fun s H C cl fp g => dts_nil) (fun s H C cl fp g => (de_lc g (own := [("_law_name", 5)]) (.nm 5) (by decide) (di_seq (de_var 4)) (blk_ok (by kernel_rfl)) (fun s H C cl fp => (pg_name (i := 5) g.nd rfl (by first | exact Or.inl rfl | exact Or.inr rfl))) (fun s H C cl fp g => (dts_one (dt_cmp (op_neG g) s_ne (de_var 5) (de_ix2 g (de_var 3) de_int)))) (fun s H C cl fp g => (de_var 5)))) | exact ds_set g rfl (by first | exact Or.inl rfl | exact Or.inr rfl) (de_lc g (own := [("_law_row", 4)]) (.nm 4) (by decide) (di_seq (de_var 1)) (blk_ok (by kernel_rfl)) (fun s H C cl fp => (pg_name (i := 4) g.nd rfl (by first | exact Or.inl rfl | exact Or.inr rfl))) (fun s H C cl fp g => dts_nil) (fun s H C cl fp g => (de_lc g (own := [("_law_name", 5)]) (.nm 5) (by decide) (di_seq (de_var 4)) (blk_ok (by kernel_rfl)) (fun s H C cl fp => (pg_name (i := 5) g.nd rfl (by first | exact Or.inl rfl | exact Or.inr rfl))) (fun s H C cl fp g => (dts_one (dt_cmp (op_neG g) s_ne (de_var 5) (de_ix2 g (de_var 3) de_int)))) (fun s H C cl fp g => (de_var 5)))))))))))
  (dss_one (ds_ret (de_var 2))))))
abbrev s__law_line : Stmt := topS 29
theorem sc__law_line : FnScope ["_law_lines", "_law_kind", "_law_own", "_law_found", "_law_one"] ["_law_lines", "_law_kind", "_law_own"] (defScope s__law_line) := ⟨rfl, rfl, rfl, by decide +kernel, rfl, by decide +kernel, by decide +kernel⟩
theorem ok__law_line {f : Addr} {fd : FuncData} (F : Fun K "_law_line" "_law_line" s__law_line f fd) (nb : NB mg) (T__law_merged : Has P w K mg base "_law_merged" ["_law_rows"] 1 w__law_merged) : FnOk P w K mg base (L2N.CX P w) 2 f fd ["_law_lines", "_law_kind", "_law_own"] (liftF K mg w__law_line) :=
  ok_def (k := 1) F sc__law_line fun cdv A outer s H E g =>
  (dss_cons (ds_set g rfl (by first | exact Or.inl rfl | exact Or.inr rfl) (de_call0 g T__law_merged (by decide) (da_cons (de_op op_add4 s_add (de_lc g (own := [("_law_one", 4)]) (.nm 4) (by decide) (di_seq (de_var 2)) (blk_ok (by kernel_rfl)) (fun s H C cl fp => (pg_name (i := 4) g.nd rfl (by first | exact Or.inl rfl | exact Or.inr rfl))) (fun s H C cl fp g => dts_nil) (fun s H C cl fp g => (de_ix2 g (de_var 0) (de_var 4)))) (de_lst (da_cons (de_callTy (call_list2 g.calm) s_listOf2 nb.list (by decide +kernel) (da_cons (de_var 2) da_nil)) da_nil))) da_nil)))
  (dss_cons (ds_if (dt_cmp op_is2 s_is2 (de_var 3) de_non)
   (dss_one (ds_ret de_non))
   dss_nil)
  (dss_one (ds_ret (de_op op_add4 s_add (de_lst (da_cons (de_var 1) da_nil)) (de_var 3))))))
abbrev s__law_parents : Stmt := topS 30
theorem sc__law_parents : FnScope ["_law_pot_here", "_law_made", "_law_left", "_law_own", "_law_turn", "_law_at"] ["_law_pot_here", "_law_made"] (defScope s__law_parents) := ⟨rfl, rfl, rfl, by decide +kernel, rfl, by decide +kernel, by decide +kernel⟩
theorem ok__law_parents {f : Addr} {fd : FuncData} (F : Fun K "_law_parents" "_law_parents" s__law_parents f fd) (nb : NB mg) (T__law_digit : Has P w K mg base "_law_digit" ["_law_pot_here", "_law_many"] 1 w__law_digit) : FnOk P w K mg base (L2N.CX P w) 2 f fd ["_law_pot_here", "_law_made"] (liftF K mg w__law_parents) :=
  ok_def (k := 1) F sc__law_parents fun cdv A outer s H E g =>
  (dss_cons (ds_set g rfl (by first | exact Or.inl rfl | exact Or.inr rfl) (de_callTy (call_list2 g.calm) s_listC2 nb.list (by decide +kernel) (da_cons (de_var 1) da_nil)))
  (dss_cons (ds_set g rfl (by first | exact Or.inl rfl | exact Or.inr rfl) (de_lstC da_nil))
  (dss_cons (ds_for g (.nm 4) (di_rng1 nb.range (da_cons (de_callB (call_min2 g.calm) s_min nb.min (by decide +kernel) (da_cons (de_callB call_len3 s_len nb.len (by decide +kernel) (da_cons (de_var 2) da_nil)) (da_cons (de_ix2 g (de_lst (da_cons de_int (da_cons de_int (da_cons de_int (da_cons de_int (da_cons de_int (da_cons de_int (da_cons de_int da_nil)))))))) (de_call0 g T__law_digit (by decide) (da_cons (de_var 0) (da_cons de_int da_nil)))) da_nil))) da_nil)) (pg_name (i := 4) g.nd rfl (by first | exact Or.inl rfl | exact Or.inr rfl))
   (dss_cons (ds_set g rfl (by first | exact Or.inl rfl | exact Or.inr rfl) (de_ix2 g (de_lst (da_cons (de_call0 g T__law_digit (by decide) (da_cons (de_var 0) (da_cons (de_callB call_len3 s_len nb.len (by decide +kernel) (da_cons (de_var 2) da_nil)) da_nil))) (da_cons (de_op op_sub s_sub (de_callB call_len3 s_len nb.len (by decide +kernel) (da_cons (de_var 2) da_nil)) de_int) da_nil))) (de_call0 g T__law_digit (by decide) (da_cons (de_var 0) (da_cons de_int da_nil)))))
   (dss_one (ds_expr (de_bm PySem.F.plainAttrs_list PySem.F.slot_list_append PySem.F.type_list_append mt_append s_append tw_list (de_var 3) (da_cons (de_bm PySem.F.plainAttrs_list PySem.F.slot_list_pop PySem.F.type_list_pop mt_popAt s_popAt tw_list (de_var 2) (da_cons (de_var 5) da_nil)) da_nil))))))
  (dss_one (ds_ret (de_var 3))))))
abbrev s__law_family : Stmt := topS 31
theorem sc__law_family : FnScope ["_law_pot_here", "_law_kinds", "_law_kind", "_law_lines", "_law_parents_here", "_law_own", "_law_turn"] ["_law_pot_here", "_law_kinds"] (defScope s__law_family) := ⟨rfl, rfl, rfl, by decide +kernel, rfl, by decide +kernel, by decide +kernel⟩
theorem ok__law_family {f : Addr} {fd : FuncData} (F : Fun K "_law_family" "_law_family" s__law_family f fd) (nb : NB mg) (T__law_line : Has P w K mg base "_law_line" ["_law_lines", "_law_kind", "_law_own"] 2 w__law_line) (T__law_parents : Has P w K mg base "_law_parents" ["_law_pot_here", "_law_made"] 2 w__law_parents) : FnOk P w K mg base (L2N.CX P w) 3 f fd ["_law_pot_here", "_law_kinds"] (liftF K mg w__law_family4) :=
  ok_def (k := 2) F sc__law_family fun cdv A outer s H E g =>
  (dss_cons (by first | exact ds_par g rfl rfl (by decide) rfl rfl (da_cons de_dicK (da_cons de_dicK da_nil)) rfl | exact ds_parT g rfl rfl (by decide) (da_cons de_dicK (da_cons de_dicK da_nil)) (hp := (pgs_cons (pg_name (i := 3) g.nd rfl (by first | exact Or.inl rfl | exact Or.inr rfl)) (pgs_cons (pg_name (i := 4) g.nd rfl (by first | exact Or.inl rfl | exact Or.inr rfl)) pgs_nil))))
  (dss_cons (ds_for g (.nm 2) (di_seq (de_var 1)) (pg_name (i := 2) g.nd rfl (by first | exact Or.inl rfl | exact Or.inr rfl))
   (dss_cons (ds_set g rfl (by first | exact Or.inl rfl | exact Or.inr rfl) (de_call0 g T__law_parents (by decide) (da_cons (de_var 0) (da_cons (de_callTy (call_list2 g.calm) s_listOf2 nb.list (by decide +kernel) (da_cons (de_var 3) da_nil)) da_nil))))
   (dss_cons (ds_for g (.nm 6) (di_rng1 nb.range (da_cons de_int da_nil)) (pg_name (i := 6) g.nd rfl (by first | exact Or.inl rfl | exact Or.inr rfl))
    (dss_one (ds_if (dt_cmp op_is2 s_is2 (de_call0 g T__law_line (by decide) (da_cons (de_var 3) (da_cons (de_var 2) (da_cons (de_var 5) da_nil)))) de_non)
     (dss_one (ds_set g rfl (by first | exact Or.inl rfl | exact Or.inr rfl) (de_slice (de_var 5) do_none (do_some (de_neg de_int)))))
     dss_nil)))
   (dss_cons (ds_setI g (de_var 3) (de_var 2) (de_call0 g T__law_line (by decide) (da_cons (de_var 3) (da_cons (de_var 2) (da_cons (de_var 5) da_nil)))))
   (dss_one (ds_setI g (de_var 4) (de_var 2) (de_var 5)))))))
  (dss_one (ds_ret (de_tup (da_cons (de_frz (de_var 3)) (da_cons (de_frz (de_var 4)) da_nil)))))))
abbrev s__law_family_tuple : Stmt := topS 32
theorem sc__law_family_tuple : FnScope ["_law_parents_here", "_law_kind"] ["_law_parents_here"] (defScope s__law_family_tuple) := ⟨rfl, rfl, rfl, by decide +kernel, rfl, by decide +kernel, by decide +kernel⟩
theorem ok__law_family_tuple {f : Addr} {fd : FuncData} (F : Fun K "_law_family_tuple" "_law_family_tuple" s__law_family_tuple f fd) (nb : NB mg) : FnOk P w K mg base (L2N.CX P w) 1 f fd ["_law_parents_here"] (liftF K mg w__law_family_tuple) :=
  ok_def (k := 0) F sc__law_family_tuple fun cdv A outer s H E g =>
  (dss_one (ds_ret (de_callTy call_tupOf s_tupOf nb.tuple (by decide +kernel) (da_cons (de_callB (call_sorted3 g) s_sorted nb.sorted (by decide +kernel) (da_cons (de_lc g (own := [("_law_kind", 1)]) (.nm 1) (by decide) (di_keys (de_var 0)) (blk_ok (by kernel_rfl)) (fun s H C cl fp => (pg_name (i := 1) g.nd rfl (by first | exact Or.inl rfl | exact Or.inr rfl))) (fun s H C cl fp g => dts_nil) (fun s H C cl fp g => (de_tup (da_cons (de_var 1) (da_cons (de_callTy call_tupOf s_tupOf nb.tuple (by decide +kernel) (da_cons (de_ix2 g (de_var 0) (de_var 1)) da_nil)) da_nil))))) da_nil)) da_nil))))
abbrev s__law_number : Stmt := topS 33
theorem sc__law_number : FnScope ["_law_pot_here", "_law_near", "_law_far"] ["_law_pot_here"] (defScope s__law_number) := ⟨rfl, rfl, rfl, by decide +kernel, rfl, by decide +kernel, by decide +kernel⟩
theorem ok__law_number {f : Addr} {fd : FuncData} (F : Fun K "_law_number" "_law_number" s__law_number f fd) (nb : NB mg) (T__law_digit : Has P w K mg base "_law_digit" ["_law_pot_here", "_law_many"] 1 w__law_digit) : FnOk P w K mg base (L2N.CX P w) 2 f fd ["_law_pot_here"] (liftF K mg w__law_number) :=
  ok_def (k := 1) F sc__law_number fun cdv A outer s H E g =>
  (dss_cons (ds_set g rfl (by first | exact Or.inl rfl | exact Or.inr rfl) (de_op op_sub s_sub (de_call0 g T__law_digit (by decide) (da_cons (de_var 0) (da_cons de_int da_nil))) de_int))
  (dss_cons (ds_set g rfl (by first | exact Or.inl rfl | exact Or.inr rfl) (de_op op_add4 s_add (de_op op_sub s_sub (de_call0 g T__law_digit (by decide) (da_cons (de_var 0) (da_cons (de_op op_sub s_sub (de_op op_mul s_mul de_int (de_op op_pow s_pow de_int de_int)) de_int) da_nil))) (de_op op_pow s_pow de_int de_int)) de_int))
  (dss_one (ds_ret (de_ix2 g (de_lst (da_cons (de_var 1) (da_cons (de_var 1) (da_cons de_int (da_cons (de_var 2) da_nil))))) (de_call0 g T__law_digit (by decide) (da_cons (de_var 0) (da_cons de_int da_nil))))))))
abbrev s__law_step : Stmt := topS 34
theorem sc__law_step : FnScope ["_law_pot_here", "_law_names_here", "_law_at", "_law_way", "_law_later"] ["_law_pot_here", "_law_names_here", "_law_at"] (defScope s__law_step) := ⟨rfl, rfl, rfl, by decide +kernel, rfl, by decide +kernel, by decide +kernel⟩
theorem ok__law_step {f : Addr} {fd : FuncData} (F : Fun K "_law_step" "_law_step" s__law_step f fd) (nb : NB mg) (T__law_digit : Has P w K mg base "_law_digit" ["_law_pot_here", "_law_many"] 1 w__law_digit) (T__law_number : Has P w K mg base "_law_number" ["_law_pot_here"] 2 w__law_number) : FnOk P w K mg base (L2N.CX P w) 3 f fd ["_law_pot_here", "_law_names_here", "_law_at"] (liftF K mg w__law_step) :=
  ok_def (k := 2) F sc__law_step fun cdv A outer s H E g =>
  (dss_cons (ds_set g rfl (by first | exact Or.inl rfl | exact Or.inr rfl) (de_call0 g T__law_digit (by decide) (da_cons (de_var 0) (da_cons de_int da_nil))))
  (dss_cons (ds_if (dt_cmp (op_eqG g) s_eq (de_var 3) de_int)
   (dss_one (ds_ret (de_tup (da_cons de_str (da_cons (de_call0 g T__law_number (by decide) (da_cons (de_var 0) da_nil)) da_nil)))))
   dss_nil)
  (dss_cons (ds_if (dt_cmp (op_eqG g) s_eq (de_var 3) de_int)
   (dss_one (ds_ret (de_tup (da_cons de_str (da_cons (de_op op_sub s_sub (de_call0 g T__law_digit (by decide) (da_cons (de_var 0) (da_cons de_int da_nil))) de_int) da_nil)))))
   dss_nil)
  (dss_cons (ds_if (dt_cmp (op_lt2 g) s_lt2 (de_var 3) de_int)
   (dss_one (ds_ret (de_tup (da_cons de_str da_nil))))
   dss_nil)
  (dss_cons (ds_set g rfl (by first | exact Or.inl rfl | exact Or.inr rfl) (de_slice (de_var 1) (do_some (de_op op_add4 s_add (de_var 2) de_int)) do_none))
  (dss_cons (ds_if (DW.t (dw_or (dt_cmp (op_eqG g) s_eq (de_var 4) (de_lst da_nil)) (dw_or1 (dt_cmp (op_eqG g) s_eq (de_call0 g T__law_digit (by decide) (da_cons (de_var 0) (da_cons de_int da_nil))) de_int))))
   (dss_one (ds_set g rfl (by first | exact Or.inl rfl | exact Or.inr rfl) (de_var 1)))
   dss_nil)
  (dss_one (ds_ret (de_tup (da_cons de_str (da_cons (de_ix2 g (de_var 4) (de_call0 g T__law_digit (by decide) (da_cons (de_var 0) (da_cons (de_callB call_len3 s_len nb.len (by decide +kernel) (da_cons (de_var 4) da_nil)) da_nil)))) da_nil)))))))))))
abbrev s__law_entry : Stmt := topS 35
theorem sc__law_entry : FnScope ["_law_pot_here", "_law_names_here", "_law_at", "_law_way", "_law_steps", "_law_turn"] ["_law_pot_here", "_law_names_here", "_law_at"] (defScope s__law_entry) := ⟨rfl, rfl, rfl, by decide +kernel, rfl, by decide +kernel, by decide +kernel⟩
theorem ok__law_entry {f : Addr} {fd : FuncData} (F : Fun K "_law_entry" "_law_entry" s__law_entry f fd) (nb : NB mg) (T__law_digit : Has P w K mg base "_law_digit" ["_law_pot_here", "_law_many"] 1 w__law_digit) (T__law_number : Has P w K mg base "_law_number" ["_law_pot_here"] 2 w__law_number) (T__law_step : Has P w K mg base "_law_step" ["_law_pot_here", "_law_names_here", "_law_at"] 3 w__law_step) : FnOk P w K mg base (L2N.CX P w) 4 f fd ["_law_pot_here", "_law_names_here", "_law_at"] (liftF K mg w__law_entry) :=
  ok_def (k := 3) F sc__law_entry fun cdv A outer s H E g =>
  (dss_cons (ds_set g rfl (by first | exact Or.inl rfl | exact Or.inr rfl) (de_call0 g T__law_digit (by decide) (da_cons (de_var 0) (da_cons de_int da_nil))))
  (dss_cons (ds_if (dt_cmp (op_eqG g) s_eq (de_var 3) de_int)
   (dss_one (ds_ret (de_tup (da_cons de_str (da_cons (de_call0 g T__law_number (by decide) (da_cons (de_var 0) da_nil)) da_nil)))))
   dss_nil)
  (dss_cons (ds_if (dt_cmp (op_eqG g) s_eq (de_var 3) de_int)
   (dss_one (ds_ret (de_tup (da_cons de_str (da_cons (de_ix2 g (de_var 1) (de_op op_mod s_mod (de_op op_add4 s_add (de_op op_add4 s_add (de_var 2) de_int) (de_call0 g T__law_digit (by decide) (da_cons (de_var 0) (da_cons (de_callB call_len3 s_len nb.len (by decide +kernel) (da_cons (de_var 1) da_nil)) da_nil)))) (de_callB call_len3 s_len nb.len (by decide +kernel) (da_cons (de_var 1) da_nil)))) (da_cons (de_call0 g T__law_number (by decide) (da_cons (de_var 0) da_nil)) da_nil))))))
   dss_nil)
  (dss_cons (ds_set g rfl (by first | exact Or.inl rfl | exact Or.inr rfl) (de_callTy call_tupOf s_tupOf nb.tuple (by decide +kernel) (da_cons (de_lc g (own := [("_law_turn", 5)]) (.nm 5) (by decide) (di_rng1 nb.range (da_cons (de_call0 g T__law_digit (by decide) (da_cons (de_var 0) (da_cons de_int da_nil))) da_nil)) (blk_ok (by kernel_rfl)) (fun s H C cl fp => (pg_name (i := 5) g.nd rfl (by first | exact Or.inl rfl | exact Or.inr rfl))) (fun s H C cl fp g => dts_nil) (fun s H C cl fp g => (de_call0 g T__law_step (by decide) (da_cons (de_var 0) (da_cons (de_var 1) (da_cons (de_var 2) da_nil)))))) da_nil)))
  (dss_one (ds_ret (de_tup (da_cons (de_ix2 g (de_lst (da_cons de_str (da_cons de_str (da_cons de_str da_nil)))) (de_op op_sub s_sub (de_var 3) de_int)) (da_cons (de_var 4) da_nil)))))))))
abbrev s__law_book_tuple : Stmt := topS 36
theorem sc__law_book_tuple : FnScope ["_law_book", "_law_kind", "_law_name"] ["_law_book"] (defScope s__law_book_tuple) := ⟨rfl, rfl, rfl, by decide +kernel, rfl, by decide +kernel, by decide +kernel⟩
theorem ok__law_book_tuple {f : Addr} {fd : FuncData} (F : Fun K "_law_book_tuple" "_law_book_tuple" s__law_book_tuple f fd) (nb : NB mg) : FnOk P w K mg base (L2N.CX P w) 1 f fd ["_law_book"] (liftF K mg w__law_book_tuple) :=
  ok_def (k := 0) F sc__law_book_tuple fun cdv A outer s H E g =>
  (dss_one (ds_ret (de_callTy call_tupOf s_tupOf nb.tuple (by decide +kernel) (da_cons (de_callB (cr_sort2 (hu100 g.rm)) s_sortT nb.sorted (by decide +kernel) (da_cons (de_lck 0 (de_lc g (own := [("_law_kind", 1), ("_law_name", 2)]) (.tup [(.nm 1), (.nm 2)]) (by decide) (di_keysT (de_var 0)) (blk_ok (by kernel_rfl)) (fun s H C cl fp => (pg_tup g.calm (pgs_cons (pg_name (i := 1) g.nd rfl (by first | exact Or.inl rfl | exact Or.inr rfl)) (pgs_cons (pg_name (i := 2) g.nd rfl (by first | exact Or.inl rfl | exact Or.inr rfl)) pgs_nil)))) (fun s H C cl fp g => dts_nil) (fun s H C cl fp g => (de_tup (da_cons (de_var 1) (da_cons (de_var 2) (da_cons (de_ix2 g (de_var 0) (de_tupK (da_cons (de_var 1) (da_cons (de_var 2) da_nil)))) da_nil))))))) da_nil)) da_nil))))
abbrev s__law_deed : Stmt := topS 37
theorem sc__law_deed : FnScope ["_law_pot_here", "_law_book", "_law_kinds", "_law_names_here", "_law_way", "_law_kind", "_law_at", "_law_keys"] ["_law_pot_here", "_law_book", "_law_kinds", "_law_names_here"] (defScope s__law_deed) := ⟨rfl, rfl, rfl, by decide +kernel, rfl, by decide +kernel, by decide +kernel⟩
theorem ok__law_deed {f : Addr} {fd : FuncData} (F : Fun K "_law_deed" "_law_deed" s__law_deed f fd) (nb : NB mg) (T__law_digit : Has P w K mg base "_law_digit" ["_law_pot_here", "_law_many"] 1 w__law_digit) (T__law_entry : Has P w K mg base "_law_entry" ["_law_pot_here", "_law_names_here", "_law_at"] 4 w__law_entry) : FnOk P w K mg base (L2N.CX P w) 5 f fd ["_law_pot_here", "_law_book", "_law_kinds", "_law_names_here"] (liftF K mg w__law_deed) :=
  ok_def (k := 4) F sc__law_deed fun cdv A outer s H E g =>
  (dss_cons (ds_set g rfl (by first | exact Or.inl rfl | exact Or.inr rfl) (de_call0 g T__law_digit (by decide) (da_cons (de_var 0) (da_cons de_int da_nil))))
  (dss_cons (ds_set g rfl (by first | exact Or.inl rfl | exact Or.inr rfl) (de_ix2 g (de_var 2) (de_call0 g T__law_digit (by decide) (da_cons (de_var 0) (da_cons (de_callB call_len3 s_len nb.len (by decide +kernel) (da_cons (de_var 2) da_nil)) da_nil)))))
  (dss_cons (ds_set g rfl (by first | exact Or.inl rfl | exact Or.inr rfl) (de_call0 g T__law_digit (by decide) (da_cons (de_var 0) (da_cons (de_callB call_len3 s_len nb.len (by decide +kernel) (da_cons (de_var 3) da_nil)) da_nil))))
  (dss_cons (ds_set g rfl (by first | exact Or.inl rfl | exact Or.inr rfl) (de_callTy (call_list_dT g.calm) s_listT nb.list (by decide +kernel) (da_cons (de_var 1) da_nil)))
  (dss_cons (ds_if (DW.t (dw_and (dt_cmp (op_eqG g) s_eq (de_var 4) de_int) (dw_and1 (dt_cmp (op_neG g) s_neKs (de_var 7) (de_lst da_nil)))))
   (dss_one (ds_ret (de_op op_catF s_addK (de_ix2 g (de_var 7) (de_call0 g T__law_digit (by decide) (da_cons (de_var 0) (da_cons (de_callB call_len3 s_len nb.len (by decide +kernel) (da_cons (de_var 7) da_nil)) da_nil)))) (de_tup (da_cons de_non da_nil)))))
   dss_nil)
  (dss_cons (ds_if (DW.t (dw_and (dt_cmp (op_eqG g) s_eq (de_var 4) de_int) (dw_and1 (dt_cmp (op_in5 g) s_in2 (de_tupK (da_cons (de_var 5) (da_cons (de_ix2 g (de_var 3) (de_var 6)) da_nil))) (de_var 1)))))
   (dss_one (ds_ret (de_tup (da_cons (de_var 5) (da_cons (de_ix2 g (de_var 3) (de_var 6)) (da_cons (de_ix2 g (de_var 1) (de_tupK (da_cons (de_var 5) (da_cons (de_ix2 g (de_var 3) (de_var 6)) da_nil)))) da_nil))))))
   dss_nil)
  (dss_one (ds_ret (de_tup (da_cons (de_var 5) (da_cons (de_ix2 g (de_var 3) (de_var 6)) (da_cons (de_call0 g T__law_entry (by decide) (da_cons (de_var 0) (da_cons (de_var 3) (da_cons (de_var 6) da_nil)))) da_nil))))))))))))
abbrev s__law_done : Stmt := topS 38
theorem sc__law_done : FnScope ["_law_family_here", "_law_book", "_law_deed_here", "_law_kind", "_law_name", "_law_entry_here"] ["_law_family_here", "_law_book", "_law_deed_here"] (defScope s__law_done) := ⟨rfl, rfl, rfl, by decide +kernel, rfl, by decide +kernel, by decide +kernel⟩
theorem ok__law_done {f : Addr} {fd : FuncData} (F : Fun K "_law_done" "_law_done" s__law_done f fd) (nb : NB mg) (T_name_given : Has P w K mg base "name_given" ["family", "book", "kind", "name", "entry"] 5 w_name_given) (T_name_taken : Has P w K mg base "name_taken" ["family", "book", "kind", "name"] 3 w_name_taken) : FnOk P w K mg base (L2N.CX P w) 6 f fd ["_law_family_here", "_law_book", "_law_deed_here"] (liftF K mg w__law_done) :=
  ok_def (k := 5) F sc__law_done fun cdv A outer s H E g =>
  (dss_cons (ds_asg (.tup [(.nm 3), (.nm 4), (.nm 5)]) (de_var 2) (pg_tup g.calm (pgs_cons (pg_name (i := 3) g.nd rfl (by first | exact Or.inl rfl | exact Or.inr rfl)) (pgs_cons (pg_name (i := 4) g.nd rfl (by first | exact Or.inl rfl | exact Or.inr rfl)) (pgs_cons (pg_name (i := 5) g.nd rfl (by first | exact Or.inl rfl | exact Or.inr rfl)) pgs_nil)))))
  (dss_cons (ds_if (dt_cmp op_is2 s_is2 (de_var 5) de_non)
   (dss_one (ds_ret (de_callH g T_name_taken (by decide) (da_cons (de_var 0) (da_cons (de_var 1) (da_cons (de_var 3) (da_cons (de_var 4) da_nil)))))))
   dss_nil)
  (dss_one (ds_ret (de_callH g T_name_given (by decide) (da_cons (de_var 0) (da_cons (de_var 1) (da_cons (de_var 3) (da_cons (de_var 4) (da_cons (de_var 5) da_nil))))))))))
abbrev s_law : Stmt := topS 39
theorem sc_law : FnScope ["_law_script", "_law_pot_here", "_law_alike", "_law_words", "_law_kinds", "_law_names_here", "_law_family_here", "_law_k", "_law_due", "_law_books", "_law_deeds", "_law_deed_here", "_law_book"] ["_law_script"] (defScope s_law) := ⟨rfl, rfl, rfl, by decide +kernel, rfl, by decide +kernel, by decide +kernel⟩
theorem ok_law {f : Addr} {fd : FuncData} (F : Fun K "law" "law" s_law f fd) (nb : NB mg) (T__law_book_tuple : Has P w K mg base "_law_book_tuple" ["_law_book"] 1 w__law_book_tuple) (T__law_deed : Has P w K mg base "_law_deed" ["_law_pot_here", "_law_book", "_law_kinds", "_law_names_here"] 5 w__law_deed) (T__law_digit : Has P w K mg base "_law_digit" ["_law_pot_here", "_law_many"] 1 w__law_digit) (T__law_done : Has P w K mg base "_law_done" ["_law_family_here", "_law_book", "_law_deed_here"] 6 w__law_done) (T__law_family : Has P w K mg base "_law_family" ["_law_pot_here", "_law_kinds"] 3 w__law_family4) (T__law_family_tuple : Has P w K mg base "_law_family_tuple" ["_law_parents_here"] 1 w__law_family_tuple) (T__law_names : Has P w K mg base "_law_names" ["_law_pot_here", "_law_many"] 2 w__law_names) (T__law_pot : Has P w K mg base "_law_pot" ["_law_script", "_law_k"] 1 w__law_pot) : FnOk P w K mg base (LM.CX true P w) 7 f fd ["_law_script"] (liftF K mg w_law) :=
  ok_defZ (k := 6) F sc_law fun cdv A outer s H E g tz =>
  (dss_cons (ds_set g rfl (by first | exact Or.inl rfl | exact Or.inr rfl) (de_call0 g T__law_pot (by decide) (da_cons (de_var 0) (da_cons de_int da_nil))))
  (dss_cons (ds_set g rfl (by first | exact Or.inl rfl | exact Or.inr rfl) (de_cmp (op_eqG g) s_eq (de_call0 g T__law_digit (by decide) (da_cons (de_var 1) (da_cons de_int da_nil))) de_int))
  (dss_cons (ds_set g rfl (by first | exact Or.inl rfl | exact Or.inr rfl) (de_call0 g T__law_names (by decide) (da_cons (de_var 1) (da_cons de_int da_nil))))
  (dss_cons (ds_set g rfl (by first | exact Or.inl rfl | exact Or.inr rfl) (de_slice (de_var 3) do_none (do_some (de_op op_add4 s_add de_int (de_call0 g T__law_digit (by decide) (da_cons (de_var 1) (da_cons de_int da_nil)))))))
  (dss_cons (ds_set g rfl (by first | exact Or.inl rfl | exact Or.inr rfl) (de_slice (de_slice (de_var 3) (do_some (de_ix2 g (de_lst (da_cons de_int (da_cons de_int da_nil))) (de_callTy call_int1 s_intB nb.int (by decide +kernel) (da_cons (de_var 2) da_nil)))) do_none) do_none (do_some (de_op op_add4 s_add de_int (de_call0 g T__law_digit (by decide) (da_cons (de_var 1) (da_cons de_int da_nil)))))))
  (dss_cons (ds_set g rfl (by first | exact Or.inl rfl | exact Or.inr rfl) (de_call0 g T__law_family_tuple (by decide) (da_cons (de_ix2 g (de_call0 g T__law_family (by decide) (da_cons (de_var 1) (da_cons (de_var 4) da_nil))) de_int) da_nil)))
  (dss_cons (ds_par3 g rfl rfl rfl (by decide) (by decide) (by decide) rfl rfl rfl (da_cons de_dicT (da_cons (de_lstC (da_cons (de_tup da_nil) da_nil)) (da_cons (de_lstC da_nil) da_nil))) rfl)
  (dss_cons (ds_for g (.nm 7) (di_rng2 nb.range (da_cons de_int (da_cons (de_op op_add4 s_add (de_callB (call_min2 g.calm) s_min nb.min (by decide +kernel) (da_cons (de_callB call_len3 s_len nb.len (by decide +kernel) (da_cons (de_var 0) da_nil)) (da_cons de_int da_nil))) de_int) da_nil))) (pg_name (i := 7) g.nd rfl (by first | exact Or.inl rfl | exact Or.inr rfl))
   (dss_cons (ds_set g rfl (by first | exact Or.inl rfl | exact Or.inr rfl) (de_call0 g T__law_deed (by decide) (da_cons (de_call0 g T__law_pot (by decide) (da_cons (de_var 0) (da_cons (de_var 7) da_nil))) (da_cons (de_var 8) (da_cons (de_var 4) (da_cons (de_var 5) da_nil))))))
   (dss_cons (ds_set g rfl (by first | exact Or.inl rfl | exact Or.inr rfl) (de_callH g T__law_done (by decide) (da_cons (de_var 6) (da_cons (de_ix2 g (de_var 9) (de_neg de_int)) (da_cons (de_var 11) da_nil)))))
   (dss_cons (ds_if (dt_cmp op_is2 s_is2 (de_ix2 g (de_var 11) de_int) de_non)
    (dss_one (ds_expr (de_bm PySem.F.plainAttrs_dict PySem.F.slot_dict_pop PySem.F.type_dict_pop (mt_popT1 (hu_of g.rm)) s_popK tw_dict (de_var 8) (da_cons (de_sliceK (de_var 11) do_none (do_some de_int)) da_nil))))
    (dss_one (ds_setI g (de_var 8) (de_sliceK (de_var 11) do_none (do_some de_int)) (de_ix2 g (de_var 11) de_int))))
   (dss_cons (ds_if (DW.t (dw_or (dt_not (dt_val (de_isi (T := "tuple") (by simp) (by decide +kernel) nb.isinstance nb.tuple (de_var 12) (by decide +kernel)))) (dw_or1 (dt_cmp (op_neG g) s_ne (de_var 12) (de_call0 g T__law_book_tuple (by decide) (da_cons (de_var 8) da_nil))))))
    (dss_one (ds_ret de_bl))
    dss_nil)
   (dss_cons (ds_expr (de_bm PySem.F.plainAttrs_list PySem.F.slot_list_append PySem.F.type_list_append mt_append s_append tw_list (de_var 9) (da_cons (de_var 12) da_nil)))
   (dss_one (ds_expr (de_bm PySem.F.plainAttrs_list PySem.F.slot_list_append PySem.F.type_list_append mt_append s_append tw_list (de_var 10) (da_cons (de_var 11) da_nil))))))))))
  (dss_one (ds_ret (de_cmp (op_eqG g) s_eq (de_lc g (own := [("_law_deed_here", 11), ("_law_book", 12)]) (.tup [(.nm 12), (.nm 11)]) (by decide) (di_zipL nb.zip (da_cons (de_var 9) (da_cons (de_var 10) da_nil))) (blk_ok (by kernel_rfl)) (fun s H C cl fp => (pg_tup g.calm (pgs_cons (pg_name (i := 12) g.nd rfl (by first | exact Or.inl rfl | exact Or.inr rfl)) (pgs_cons (pg_name (i := 11) g.nd rfl (by first | exact Or.inl rfl | exact Or.inr rfl)) pgs_nil)))) (fun s H C cl fp g => dts_nil) (fun s H C cl fp g => (de_callH g T__law_done (by decide) (da_cons (de_var 6) (da_cons (de_var 12) (da_cons (de_var 11) da_nil)))))) (de_slice (de_var 9) (do_some de_int) do_none))))))))))))
end
def spLaw (K : Fg) : Sp := fun vs H Q _ => ∃ (a : Addr) (ns : List Int), vs = [.ref a] ∧ SqL K H a (ns.map V.int) ∧ ns.length ≤ 63 ∧ ∀ H', Q (.bl true) H'
def spLawT (T : List (Addr × Str)) (K : Fg) : Sp := fun vs H Q E => (∀ p ∈ T, H p.1 = some (.tbl #[])) ∧ spLaw K vs H Q E
theorem all_mk {l : PySem.W.OpenLaw} {w : World} {K : Fg} {h : Heap} {mg : Str → Option Value} {fa : Addr} (X : K.In h) (G : h.Ns mainGlobals mg) (hfa : mg "law" = some (.ref fa))
    {C_NoName : Addr}
    {C_NoKind : Addr}
    {C_NoEntry : Addr}
    {f_is_name : Addr} {od_is_name an_is_name : Option Addr} {sl_is_name : Array (Option Value)} {oc_is_name kv_is_name dc_is_name pm_is_name cd_is_name ct_is_name : Value}
    {f_is_whole : Addr} {od_is_whole an_is_whole : Option Addr} {sl_is_whole : Array (Option Value)} {oc_is_whole kv_is_whole dc_is_whole pm_is_whole cd_is_whole ct_is_whole : Value}
    {f_is_step : Addr} {od_is_step an_is_step : Option Addr} {sl_is_step : Array (Option Value)} {oc_is_step kv_is_step dc_is_step pm_is_step cd_is_step ct_is_step : Value}
    {f_are_steps : Addr} {od_are_steps an_are_steps : Option Addr} {sl_are_steps : Array (Option Value)} {oc_are_steps kv_are_steps dc_are_steps pm_are_steps cd_are_steps ct_are_steps : Value}
    {f_is_entry : Addr} {od_is_entry an_is_entry : Option Addr} {sl_is_entry : Array (Option Value)} {oc_is_entry kv_is_entry dc_is_entry pm_is_entry cd_is_entry ct_is_entry : Value}
    {f_kinds_of : Addr} {od_kinds_of an_kinds_of : Option Addr} {sl_kinds_of : Array (Option Value)} {oc_kinds_of kv_kinds_of dc_kinds_of pm_kinds_of cd_kinds_of ct_kinds_of : Value}
    {f_need_kind : Addr} {od_need_kind an_need_kind : Option Addr} {sl_need_kind : Array (Option Value)} {oc_need_kind kv_need_kind dc_need_kind pm_need_kind cd_need_kind ct_need_kind : Value}
    {f_entry_of : Addr} {od_entry_of an_entry_of : Option Addr} {sl_entry_of : Array (Option Value)} {oc_entry_of kv_entry_of dc_entry_of pm_entry_of cd_entry_of ct_entry_of : Value}
    {f_book_without : Addr} {od_book_without an_book_without : Option Addr} {sl_book_without : Array (Option Value)} {oc_book_without kv_book_without dc_book_without pm_book_without cd_book_without ct_book_without : Value}
    {f_name_given : Addr} {od_name_given an_name_given : Option Addr} {sl_name_given : Array (Option Value)} {oc_name_given kv_name_given dc_name_given pm_name_given  ct_name_given : Value}
    {c_name_given P_name_given : Addr} {odk_name_given : Option Addr} {vk_name_given : Array Value} {slk_name_given : Array (Option Value)} {fl_name_given : Str} {tf_name_given tg_name_given tt_name_given : Tok} {fg_name_given tx_name_given : Int} {nF_name_given : Bool}
    {f_name_taken : Addr} {od_name_taken an_name_taken : Option Addr} {sl_name_taken : Array (Option Value)} {oc_name_taken kv_name_taken dc_name_taken pm_name_taken cd_name_taken ct_name_taken : Value}
    {f__law_pot : Addr} {od__law_pot an__law_pot : Option Addr} {sl__law_pot : Array (Option Value)} {oc__law_pot kv__law_pot dc__law_pot pm__law_pot cd__law_pot ct__law_pot : Value}
    {f__law_digit : Addr} {od__law_digit an__law_digit : Option Addr} {sl__law_digit : Array (Option Value)} {oc__law_digit kv__law_digit dc__law_digit pm__law_digit cd__law_digit ct__law_digit : Value}
    {f__law_names : Addr} {od__law_names an__law_names : Option Addr} {sl__law_names : Array (Option Value)} {oc__law_names kv__law_names dc__law_names pm__law_names cd__law_names ct__law_names : Value}
    {f__law_merged : Addr} {od__law_merged an__law_merged : Option Addr} {sl__law_merged : Array (Option Value)} {oc__law_merged kv__law_merged dc__law_merged pm__law_merged cd__law_merged ct__law_merged : Value}
    {f__law_line : Addr} {od__law_line an__law_line : Option Addr} {sl__law_line : Array (Option Value)} {oc__law_line kv__law_line dc__law_line pm__law_line cd__law_line ct__law_line : Value}
    {f__law_parents : Addr} {od__law_parents an__law_parents : Option Addr} {sl__law_parents : Array (Option Value)} {oc__law_parents kv__law_parents dc__law_parents pm__law_parents cd__law_parents ct__law_parents : Value}
    {f__law_family : Addr} {od__law_family an__law_family : Option Addr} {sl__law_family : Array (Option Value)} {oc__law_family kv__law_family dc__law_family pm__law_family cd__law_family ct__law_family : Value}
    {f__law_family_tuple : Addr} {od__law_family_tuple an__law_family_tuple : Option Addr} {sl__law_family_tuple : Array (Option Value)} {oc__law_family_tuple kv__law_family_tuple dc__law_family_tuple pm__law_family_tuple cd__law_family_tuple ct__law_family_tuple : Value}
    {f__law_number : Addr} {od__law_number an__law_number : Option Addr} {sl__law_number : Array (Option Value)} {oc__law_number kv__law_number dc__law_number pm__law_number cd__law_number ct__law_number : Value}
    {f__law_step : Addr} {od__law_step an__law_step : Option Addr} {sl__law_step : Array (Option Value)} {oc__law_step kv__law_step dc__law_step pm__law_step cd__law_step ct__law_step : Value}
    {f__law_entry : Addr} {od__law_entry an__law_entry : Option Addr} {sl__law_entry : Array (Option Value)} {oc__law_entry kv__law_entry dc__law_entry pm__law_entry cd__law_entry ct__law_entry : Value}
    {f__law_book_tuple : Addr} {od__law_book_tuple an__law_book_tuple : Option Addr} {sl__law_book_tuple : Array (Option Value)} {oc__law_book_tuple kv__law_book_tuple dc__law_book_tuple pm__law_book_tuple cd__law_book_tuple ct__law_book_tuple : Value}
    {f__law_deed : Addr} {od__law_deed an__law_deed : Option Addr} {sl__law_deed : Array (Option Value)} {oc__law_deed kv__law_deed dc__law_deed pm__law_deed cd__law_deed ct__law_deed : Value}
    {f__law_done : Addr} {od__law_done an__law_done : Option Addr} {sl__law_done : Array (Option Value)} {oc__law_done kv__law_done dc__law_done pm__law_done cd__law_done ct__law_done : Value}
    {f_law : Addr} {od_law an_law : Option Addr} {sl_law : Array (Option Value)} {oc_law kv_law dc_law pm_law cd_law ct_law : Value}
    {tk_LETTERS : Nat}
    {tk_MOST_LETTERS : Nat}
    {tk_MOST_STEPS : Nat}
    {tk_MOST_TIMES : Nat}
    (n_NoName : PySem.W.nsIn K mainGlobals "NoName" = some (some (.ref C_NoName)))
    (n_NoKind : PySem.W.nsIn K mainGlobals "NoKind" = some (some (.ref C_NoKind)))
    (n_NoEntry : PySem.W.nsIn K mainGlobals "NoEntry" = some (some (.ref C_NoEntry)))
    (s_NoName : PySem.W.subIn K (.ref C_NoName) (.type "BaseException") = some true)
    (t_NoName : PySem.W.typeIn K (.ref C_NoName) = some (.type "type"))
    (kc_NoName : PySem.W.keepIn K (.ref C_NoName) = true)
    (x_NoName : PySem.W.excIn K C_NoName [.type "ValueError", .type "Exception", .type "BaseException", .type "object"] "ValueError.__new__" = true)
    (s_NoKind : PySem.W.subIn K (.ref C_NoKind) (.type "BaseException") = some true)
    (t_NoKind : PySem.W.typeIn K (.ref C_NoKind) = some (.type "type"))
    (kc_NoKind : PySem.W.keepIn K (.ref C_NoKind) = true)
    (x_NoKind : PySem.W.excIn K C_NoKind [.type "ValueError", .type "Exception", .type "BaseException", .type "object"] "ValueError.__new__" = true)
    (s_NoEntry : PySem.W.subIn K (.ref C_NoEntry) (.type "BaseException") = some true)
    (t_NoEntry : PySem.W.typeIn K (.ref C_NoEntry) = some (.type "type"))
    (kc_NoEntry : PySem.W.keepIn K (.ref C_NoEntry) = true)
    (x_NoEntry : PySem.W.excIn K C_NoEntry [.type "ValueError", .type "Exception", .type "BaseException", .type "object"] "ValueError.__new__" = true)
    (a_is_name : PySem.W.nsIn K mainGlobals "is_name" = some (some (.ref f_is_name)))
    (l_is_name : K.lookup f_is_name = some ⟨oc_is_name, od_is_name, .func (PySem.W.fnOf "is_name" "is_name" (defArgs s_is_name) (defBody s_is_name) (defScope s_is_name) .none kv_is_name dc_is_name pm_is_name an_is_name cd_is_name ct_is_name), sl_is_name⟩)
    (c_is_name : PySem.W.codeIn K cd_is_name "is_name" = true)
    (k_is_name : PySem.W.keepIn K (.ref f_is_name) = true)
    (a_is_whole : PySem.W.nsIn K mainGlobals "is_whole" = some (some (.ref f_is_whole)))
    (l_is_whole : K.lookup f_is_whole = some ⟨oc_is_whole, od_is_whole, .func (PySem.W.fnOf "is_whole" "is_whole" (defArgs s_is_whole) (defBody s_is_whole) (defScope s_is_whole) .none kv_is_whole dc_is_whole pm_is_whole an_is_whole cd_is_whole ct_is_whole), sl_is_whole⟩)
    (c_is_whole : PySem.W.codeIn K cd_is_whole "is_whole" = true)
    (k_is_whole : PySem.W.keepIn K (.ref f_is_whole) = true)
    (a_is_step : PySem.W.nsIn K mainGlobals "is_step" = some (some (.ref f_is_step)))
    (l_is_step : K.lookup f_is_step = some ⟨oc_is_step, od_is_step, .func (PySem.W.fnOf "is_step" "is_step" (defArgs s_is_step) (defBody s_is_step) (defScope s_is_step) .none kv_is_step dc_is_step pm_is_step an_is_step cd_is_step ct_is_step), sl_is_step⟩)
    (c_is_step : PySem.W.codeIn K cd_is_step "is_step" = true)
    (k_is_step : PySem.W.keepIn K (.ref f_is_step) = true)
    (a_are_steps : PySem.W.nsIn K mainGlobals "are_steps" = some (some (.ref f_are_steps)))
    (l_are_steps : K.lookup f_are_steps = some ⟨oc_are_steps, od_are_steps, .func (PySem.W.fnOf "are_steps" "are_steps" (defArgs s_are_steps) (defBody s_are_steps) (defScope s_are_steps) .none kv_are_steps dc_are_steps pm_are_steps an_are_steps cd_are_steps ct_are_steps), sl_are_steps⟩)
    (c_are_steps : PySem.W.codeIn K cd_are_steps "are_steps" = true)
    (k_are_steps : PySem.W.keepIn K (.ref f_are_steps) = true)
    (a_is_entry : PySem.W.nsIn K mainGlobals "is_entry" = some (some (.ref f_is_entry)))
    (l_is_entry : K.lookup f_is_entry = some ⟨oc_is_entry, od_is_entry, .func (PySem.W.fnOf "is_entry" "is_entry" (defArgs s_is_entry) (defBody s_is_entry) (defScope s_is_entry) .none kv_is_entry dc_is_entry pm_is_entry an_is_entry cd_is_entry ct_is_entry), sl_is_entry⟩)
    (c_is_entry : PySem.W.codeIn K cd_is_entry "is_entry" = true)
    (k_is_entry : PySem.W.keepIn K (.ref f_is_entry) = true)
    (a_kinds_of : PySem.W.nsIn K mainGlobals "kinds_of" = some (some (.ref f_kinds_of)))
    (l_kinds_of : K.lookup f_kinds_of = some ⟨oc_kinds_of, od_kinds_of, .func (PySem.W.fnOf "kinds_of" "kinds_of" (defArgs s_kinds_of) (defBody s_kinds_of) (defScope s_kinds_of) .none kv_kinds_of dc_kinds_of pm_kinds_of an_kinds_of cd_kinds_of ct_kinds_of), sl_kinds_of⟩)
    (c_kinds_of : PySem.W.codeIn K cd_kinds_of "kinds_of" = true)
    (k_kinds_of : PySem.W.keepIn K (.ref f_kinds_of) = true)
    (a_need_kind : PySem.W.nsIn K mainGlobals "need_kind" = some (some (.ref f_need_kind)))
    (l_need_kind : K.lookup f_need_kind = some ⟨oc_need_kind, od_need_kind, .func (PySem.W.fnOf "need_kind" "need_kind" (defArgs s_need_kind) (defBody s_need_kind) (defScope s_need_kind) .none kv_need_kind dc_need_kind pm_need_kind an_need_kind cd_need_kind ct_need_kind), sl_need_kind⟩)
    (c_need_kind : PySem.W.codeIn K cd_need_kind "need_kind" = true)
    (k_need_kind : PySem.W.keepIn K (.ref f_need_kind) = true)
    (a_entry_of : PySem.W.nsIn K mainGlobals "entry_of" = some (some (.ref f_entry_of)))
    (l_entry_of : K.lookup f_entry_of = some ⟨oc_entry_of, od_entry_of, .func (PySem.W.fnOf "entry_of" "entry_of" (defArgs s_entry_of) (defBody s_entry_of) (defScope s_entry_of) .none kv_entry_of dc_entry_of pm_entry_of an_entry_of cd_entry_of ct_entry_of), sl_entry_of⟩)
    (c_entry_of : PySem.W.codeIn K cd_entry_of "entry_of" = true)
    (k_entry_of : PySem.W.keepIn K (.ref f_entry_of) = true)
    (a_book_without : PySem.W.nsIn K mainGlobals "book_without" = some (some (.ref f_book_without)))
    (l_book_without : K.lookup f_book_without = some ⟨oc_book_without, od_book_without, .func (PySem.W.fnOf "book_without" "book_without" (defArgs s_book_without) (defBody s_book_without) (defScope s_book_without) .none kv_book_without dc_book_without pm_book_without an_book_without cd_book_without ct_book_without), sl_book_without⟩)
    (c_book_without : PySem.W.codeIn K cd_book_without "book_without" = true)
    (k_book_without : PySem.W.keepIn K (.ref f_book_without) = true)
    (a_name_given : PySem.W.nsIn K mainGlobals "name_given" = some (some (.ref f_name_given)))
    (l_name_given : K.lookup f_name_given = some ⟨oc_name_given, od_name_given, .func (PySem.W.fnOf "name_given" "name_given" (defArgs s_name_given) (defBody s_name_given) (defScope s_name_given) .none kv_name_given dc_name_given pm_name_given an_name_given (.ref c_name_given) ct_name_given), sl_name_given⟩)
    (cd_name_given : PySem.W.codeIn K (.ref c_name_given) "name_given" = true)
    (k_name_given : PySem.W.keepIn K (.ref f_name_given) = true)
    (lk_name_given : K.lookup c_name_given = some ⟨.type "code", odk_name_given, .fields vk_name_given, slk_name_given⟩)
    (v11_name_given : vk_name_given[11]? = some (.ref P_name_given))
    (v18_name_given : vk_name_given.getD 18 .none = .str fl_name_given tf_name_given)
    (v7_name_given : vk_name_given.getD 7 .none = .int fg_name_given tg_name_given)
    (v9_name_given : vk_name_given.getD 9 .none = .bool nF_name_given)
    (v10_name_given : vk_name_given.getD 10 .none = .int tx_name_given tt_name_given)
    (ne_name_given : c_name_given ≠ P_name_given)
    (nk_name_given : K.lookup P_name_given = none)
    (tb_name_given : h.get? P_name_given = some (PySem.W.tabObj #[]))
    (a_name_taken : PySem.W.nsIn K mainGlobals "name_taken" = some (some (.ref f_name_taken)))
    (l_name_taken : K.lookup f_name_taken = some ⟨oc_name_taken, od_name_taken, .func (PySem.W.fnOf "name_taken" "name_taken" (defArgs s_name_taken) (defBody s_name_taken) (defScope s_name_taken) .none kv_name_taken dc_name_taken pm_name_taken an_name_taken cd_name_taken ct_name_taken), sl_name_taken⟩)
    (c_name_taken : PySem.W.codeIn K cd_name_taken "name_taken" = true)
    (k_name_taken : PySem.W.keepIn K (.ref f_name_taken) = true)
    (a__law_pot : PySem.W.nsIn K mainGlobals "_law_pot" = some (some (.ref f__law_pot)))
    (l__law_pot : K.lookup f__law_pot = some ⟨oc__law_pot, od__law_pot, .func (PySem.W.fnOf "_law_pot" "_law_pot" (defArgs s__law_pot) (defBody s__law_pot) (defScope s__law_pot) .none kv__law_pot dc__law_pot pm__law_pot an__law_pot cd__law_pot ct__law_pot), sl__law_pot⟩)
    (c__law_pot : PySem.W.codeIn K cd__law_pot "_law_pot" = true)
    (k__law_pot : PySem.W.keepIn K (.ref f__law_pot) = true)
    (a__law_digit : PySem.W.nsIn K mainGlobals "_law_digit" = some (some (.ref f__law_digit)))
    (l__law_digit : K.lookup f__law_digit = some ⟨oc__law_digit, od__law_digit, .func (PySem.W.fnOf "_law_digit" "_law_digit" (defArgs s__law_digit) (defBody s__law_digit) (defScope s__law_digit) .none kv__law_digit dc__law_digit pm__law_digit an__law_digit cd__law_digit ct__law_digit), sl__law_digit⟩)
    (c__law_digit : PySem.W.codeIn K cd__law_digit "_law_digit" = true)
    (k__law_digit : PySem.W.keepIn K (.ref f__law_digit) = true)
    (a__law_names : PySem.W.nsIn K mainGlobals "_law_names" = some (some (.ref f__law_names)))
    (l__law_names : K.lookup f__law_names = some ⟨oc__law_names, od__law_names, .func (PySem.W.fnOf "_law_names" "_law_names" (defArgs s__law_names) (defBody s__law_names) (defScope s__law_names) .none kv__law_names dc__law_names pm__law_names an__law_names cd__law_names ct__law_names), sl__law_names⟩)
    (c__law_names : PySem.W.codeIn K cd__law_names "_law_names" = true)
    (k__law_names : PySem.W.keepIn K (.ref f__law_names) = true)
    (a__law_merged : PySem.W.nsIn K mainGlobals "_law_merged" = some (some (.ref f__law_merged)))
    (l__law_merged : K.lookup f__law_merged = some ⟨oc__law_merged, od__law_merged, .func (PySem.W.fnOf "_law_merged" "_law_merged" (defArgs s__law_merged) (defBody s__law_merged) (defScope s__law_merged) .none kv__law_merged dc__law_merged pm__law_merged an__law_merged cd__law_merged ct__law_merged), sl__law_merged⟩)
    (c__law_merged : PySem.W.codeIn K cd__law_merged "_law_merged" = true)
    (k__law_merged : PySem.W.keepIn K (.ref f__law_merged) = true)
    (a__law_line : PySem.W.nsIn K mainGlobals "_law_line" = some (some (.ref f__law_line)))
    (l__law_line : K.lookup f__law_line = some ⟨oc__law_line, od__law_line, .func (PySem.W.fnOf "_law_line" "_law_line" (defArgs s__law_line) (defBody s__law_line) (defScope s__law_line) .none kv__law_line dc__law_line pm__law_line an__law_line cd__law_line ct__law_line), sl__law_line⟩)
    (c__law_line : PySem.W.codeIn K cd__law_line "_law_line" = true)
    (k__law_line : PySem.W.keepIn K (.ref f__law_line) = true)
    (a__law_parents : PySem.W.nsIn K mainGlobals "_law_parents" = some (some (.ref f__law_parents)))
    (l__law_parents : K.lookup f__law_parents = some ⟨oc__law_parents, od__law_parents, .func (PySem.W.fnOf "_law_parents" "_law_parents" (defArgs s__law_parents) (defBody s__law_parents) (defScope s__law_parents) .none kv__law_parents dc__law_parents pm__law_parents an__law_parents cd__law_parents ct__law_parents), sl__law_parents⟩)
    (c__law_parents : PySem.W.codeIn K cd__law_parents "_law_parents" = true)
    (k__law_parents : PySem.W.keepIn K (.ref f__law_parents) = true)
    (a__law_family : PySem.W.nsIn K mainGlobals "_law_family" = some (some (.ref f__law_family)))
    (l__law_family : K.lookup f__law_family = some ⟨oc__law_family, od__law_family, .func (PySem.W.fnOf "_law_family" "_law_family" (defArgs s__law_family) (defBody s__law_family) (defScope s__law_family) .none kv__law_family dc__law_family pm__law_family an__law_family cd__law_family ct__law_family), sl__law_family⟩)
    (c__law_family : PySem.W.codeIn K cd__law_family "_law_family" = true)
    (k__law_family : PySem.W.keepIn K (.ref f__law_family) = true)
    (a__law_family_tuple : PySem.W.nsIn K mainGlobals "_law_family_tuple" = some (some (.ref f__law_family_tuple)))
    (l__law_family_tuple : K.lookup f__law_family_tuple = some ⟨oc__law_family_tuple, od__law_family_tuple, .func (PySem.W.fnOf "_law_family_tuple" "_law_family_tuple" (defArgs s__law_family_tuple) (defBody s__law_family_tuple) (defScope s__law_family_tuple) .none kv__law_family_tuple dc__law_family_tuple pm__law_family_tuple an__law_family_tuple cd__law_family_tuple ct__law_family_tuple), sl__law_family_tuple⟩)
    (c__law_family_tuple : PySem.W.codeIn K cd__law_family_tuple "_law_family_tuple" = true)
    (k__law_family_tuple : PySem.W.keepIn K (.ref f__law_family_tuple) = true)
    (a__law_number : PySem.W.nsIn K mainGlobals "_law_number" = some (some (.ref f__law_number)))
    (l__law_number : K.lookup f__law_number = some ⟨oc__law_number, od__law_number, .func (PySem.W.fnOf "_law_number" "_law_number" (defArgs s__law_number) (defBody s__law_number) (defScope s__law_number) .none kv__law_number dc__law_number pm__law_number an__law_number cd__law_number ct__law_number), sl__law_number⟩)
    (c__law_number : PySem.W.codeIn K cd__law_number "_law_number" = true)
    (k__law_number : PySem.W.keepIn K (.ref f__law_number) = true)
    (a__law_step : PySem.W.nsIn K mainGlobals "_law_step" = some (some (.ref f__law_step)))
    (l__law_step : K.lookup f__law_step = some ⟨oc__law_step, od__law_step, .func (PySem.W.fnOf "_law_step" "_law_step" (defArgs s__law_step) (defBody s__law_step) (defScope s__law_step) .none kv__law_step dc__law_step pm__law_step an__law_step cd__law_step ct__law_step), sl__law_step⟩)
    (c__law_step : PySem.W.codeIn K cd__law_step "_law_step" = true)
    (k__law_step : PySem.W.keepIn K (.ref f__law_step) = true)
    (a__law_entry : PySem.W.nsIn K mainGlobals "_law_entry" = some (some (.ref f__law_entry)))
    (l__law_entry : K.lookup f__law_entry = some ⟨oc__law_entry, od__law_entry, .func (PySem.W.fnOf "_law_entry" "_law_entry" (defArgs s__law_entry) (defBody s__law_entry) (defScope s__law_entry) .none kv__law_entry dc__law_entry pm__law_entry an__law_entry cd__law_entry ct__law_entry), sl__law_entry⟩)
    (c__law_entry : PySem.W.codeIn K cd__law_entry "_law_entry" = true)
    (k__law_entry : PySem.W.keepIn K (.ref f__law_entry) = true)
    (a__law_book_tuple : PySem.W.nsIn K mainGlobals "_law_book_tuple" = some (some (.ref f__law_book_tuple)))
    (l__law_book_tuple : K.lookup f__law_book_tuple = some ⟨oc__law_book_tuple, od__law_book_tuple, .func (PySem.W.fnOf "_law_book_tuple" "_law_book_tuple" (defArgs s__law_book_tuple) (defBody s__law_book_tuple) (defScope s__law_book_tuple) .none kv__law_book_tuple dc__law_book_tuple pm__law_book_tuple an__law_book_tuple cd__law_book_tuple ct__law_book_tuple), sl__law_book_tuple⟩)
    (c__law_book_tuple : PySem.W.codeIn K cd__law_book_tuple "_law_book_tuple" = true)
    (k__law_book_tuple : PySem.W.keepIn K (.ref f__law_book_tuple) = true)
    (a__law_deed : PySem.W.nsIn K mainGlobals "_law_deed" = some (some (.ref f__law_deed)))
    (l__law_deed : K.lookup f__law_deed = some ⟨oc__law_deed, od__law_deed, .func (PySem.W.fnOf "_law_deed" "_law_deed" (defArgs s__law_deed) (defBody s__law_deed) (defScope s__law_deed) .none kv__law_deed dc__law_deed pm__law_deed an__law_deed cd__law_deed ct__law_deed), sl__law_deed⟩)
    (c__law_deed : PySem.W.codeIn K cd__law_deed "_law_deed" = true)
    (k__law_deed : PySem.W.keepIn K (.ref f__law_deed) = true)
    (a__law_done : PySem.W.nsIn K mainGlobals "_law_done" = some (some (.ref f__law_done)))
    (l__law_done : K.lookup f__law_done = some ⟨oc__law_done, od__law_done, .func (PySem.W.fnOf "_law_done" "_law_done" (defArgs s__law_done) (defBody s__law_done) (defScope s__law_done) .none kv__law_done dc__law_done pm__law_done an__law_done cd__law_done ct__law_done), sl__law_done⟩)
    (c__law_done : PySem.W.codeIn K cd__law_done "_law_done" = true)
    (k__law_done : PySem.W.keepIn K (.ref f__law_done) = true)
    (a_law : PySem.W.nsIn K mainGlobals "law" = some (some (.ref f_law)))
    (l_law : K.lookup f_law = some ⟨oc_law, od_law, .func (PySem.W.fnOf "law" "law" (defArgs s_law) (defBody s_law) (defScope s_law) .none kv_law dc_law pm_law an_law cd_law ct_law), sl_law⟩)
    (c_law : PySem.W.codeIn K cd_law "law" = true)
    (k_law : PySem.W.keepIn K (.ref f_law) = true)
    (b_len : PySem.W.nsIn K mainGlobals "len" = some none)
    (b_abs : PySem.W.nsIn K mainGlobals "abs" = some none)
    (b_max : PySem.W.nsIn K mainGlobals "max" = some none)
    (b_min : PySem.W.nsIn K mainGlobals "min" = some none)
    (b_tuple : PySem.W.nsIn K mainGlobals "tuple" = some none)
    (b_list : PySem.W.nsIn K mainGlobals "list" = some none)
    (b_all : PySem.W.nsIn K mainGlobals "all" = some none)
    (b_any : PySem.W.nsIn K mainGlobals "any" = some none)
    (b_sorted : PySem.W.nsIn K mainGlobals "sorted" = some none)
    (b_set : PySem.W.nsIn K mainGlobals "set" = some none)
    (b_isinstance : PySem.W.nsIn K mainGlobals "isinstance" = some none)
    (b_range : PySem.W.nsIn K mainGlobals "range" = some none)
    (b_enumerate : PySem.W.nsIn K mainGlobals "enumerate" = some none)
    (b_zip : PySem.W.nsIn K mainGlobals "zip" = some none)
    (b_int : PySem.W.nsIn K mainGlobals "int" = some none)
    (b_str : PySem.W.nsIn K mainGlobals "str" = some none)
    (b_bool : PySem.W.nsIn K mainGlobals "bool" = some none)
    (b_dict : PySem.W.nsIn K mainGlobals "dict" = some none)
    (b_repr : PySem.W.nsIn K mainGlobals "repr" = some none)
    (b_sum : PySem.W.nsIn K mainGlobals "sum" = some none)
    (b_type : PySem.W.nsIn K mainGlobals "type" = some none)
    (b_reversed : PySem.W.nsIn K mainGlobals "reversed" = some none)
    (g_LETTERS : PySem.W.nsIn K mainGlobals "LETTERS" = some (some (.str "abcdefghijklmnopqrstuvwxyz" tk_LETTERS)))
    (g_MOST_LETTERS : PySem.W.nsIn K mainGlobals "MOST_LETTERS" = some (some (.int 8 tk_MOST_LETTERS)))
    (g_MOST_STEPS : PySem.W.nsIn K mainGlobals "MOST_STEPS" = some (some (.int 4 tk_MOST_STEPS)))
    (g_MOST_TIMES : PySem.W.nsIn K mainGlobals "MOST_TIMES" = some (some (.int 9 tk_MOST_TIMES)))
    (hlaw : ∀ (ns : List Int), ns.length ≤ 63 → ∀ (R : DK) (xe : Exn → Oh → Prop), (∀ O', R (.d (.bool true)) O') → w_law [.d (.dict [(.none, .list (ns.map PyData.int))])] [] R xe) :
    LamX.LawAtS l w K (LM.CX true l.prog w) 7 63 "_law_script" mg fa h := by
  have e := hfa.symm.trans (PySem.W.mg_of X G a_law)
  cases e
  have nb : NB mg := ⟨PySem.W.mg_none_of X G b_len, PySem.W.mg_none_of X G b_abs, PySem.W.mg_none_of X G b_max, PySem.W.mg_none_of X G b_min, PySem.W.mg_none_of X G b_tuple, PySem.W.mg_none_of X G b_list, PySem.W.mg_none_of X G b_all, PySem.W.mg_none_of X G b_any, PySem.W.mg_none_of X G b_sorted, PySem.W.mg_none_of X G b_set, PySem.W.mg_none_of X G b_isinstance, PySem.W.mg_none_of X G b_range, PySem.W.mg_none_of X G b_enumerate, PySem.W.mg_none_of X G b_zip, PySem.W.mg_none_of X G b_int, PySem.W.mg_none_of X G b_str, PySem.W.mg_none_of X G b_bool, PySem.W.mg_none_of X G b_dict, PySem.W.mg_none_of X G b_repr, PySem.W.mg_none_of X G b_sum, PySem.W.mg_none_of X G b_type, PySem.W.mg_none_of X G b_reversed⟩
  have X_NoName : XC0 K mg "NoName" := ⟨_, PySem.W.mg_of X G n_NoName, x_NoName, kc_NoName, s_NoName, t_NoName⟩
  have X_NoKind : XC0 K mg "NoKind" := ⟨_, PySem.W.mg_of X G n_NoKind, x_NoKind, kc_NoKind, s_NoKind, t_NoKind⟩
  have X_NoEntry : XC0 K mg "NoEntry" := ⟨_, PySem.W.mg_of X G n_NoEntry, x_NoEntry, kc_NoEntry, s_NoEntry, t_NoEntry⟩
  have F_is_name := fun_mk (st := s_is_name) l_is_name c_is_name k_is_name
  have B_is_name := F_is_name.binds (ps := ["thing"]) fun _ _ _ _ _ _ us hl => match us, hl with | [_], _ => rfl
  have F_is_whole := fun_mk (st := s_is_whole) l_is_whole c_is_whole k_is_whole
  have B_is_whole := F_is_whole.binds (ps := ["thing"]) fun _ _ _ _ _ _ us hl => match us, hl with | [_], _ => rfl
  have F_is_step := fun_mk (st := s_is_step) l_is_step c_is_step k_is_step
  have B_is_step := F_is_step.binds (ps := ["thing"]) fun _ _ _ _ _ _ us hl => match us, hl with | [_], _ => rfl
  have F_are_steps := fun_mk (st := s_are_steps) l_are_steps c_are_steps k_are_steps
  have B_are_steps := F_are_steps.binds (ps := ["thing"]) fun _ _ _ _ _ _ us hl => match us, hl with | [_], _ => rfl
  have F_is_entry := fun_mk (st := s_is_entry) l_is_entry c_is_entry k_is_entry
  have B_is_entry := F_is_entry.binds (ps := ["thing"]) fun _ _ _ _ _ _ us hl => match us, hl with | [_], _ => rfl
  have F_kinds_of := fun_mk (st := s_kinds_of) l_kinds_of c_kinds_of k_kinds_of
  have B_kinds_of := F_kinds_of.binds (ps := ["family"]) fun _ _ _ _ _ _ us hl => match us, hl with | [_], _ => rfl
  have F_need_kind := fun_mk (st := s_need_kind) l_need_kind c_need_kind k_need_kind
  have B_need_kind := F_need_kind.binds (ps := ["family", "kind"]) fun _ _ _ _ _ _ us hl => match us, hl with | [_, _], _ => rfl
  have F_entry_of := fun_mk (st := s_entry_of) l_entry_of c_entry_of k_entry_of
  have B_entry_of := F_entry_of.binds (ps := ["book", "kind", "name"]) fun _ _ _ _ _ _ us hl => match us, hl with | [_, _, _], _ => rfl
  have F_book_without := fun_mk (st := s_book_without) l_book_without c_book_without k_book_without
  have B_book_without := F_book_without.binds (ps := ["book", "kind", "name"]) fun _ _ _ _ _ _ us hl => match us, hl with | [_, _, _], _ => rfl
  have F_name_given := fun_mk (st := s_name_given) l_name_given cd_name_given k_name_given
  have B_name_given := F_name_given.binds (ps := ["family", "book", "kind", "name", "entry"]) fun _ _ _ _ _ _ us hl => match us, hl with | [_, _, _, _, _], _ => rfl
  have F_name_taken := fun_mk (st := s_name_taken) l_name_taken c_name_taken k_name_taken
  have B_name_taken := F_name_taken.binds (ps := ["family", "book", "kind", "name"]) fun _ _ _ _ _ _ us hl => match us, hl with | [_, _, _, _], _ => rfl
  have F__law_pot := fun_mk (st := s__law_pot) l__law_pot c__law_pot k__law_pot
  have B__law_pot := F__law_pot.binds (ps := ["_law_script", "_law_k"]) fun _ _ _ _ _ _ us hl => match us, hl with | [_, _], _ => rfl
  have F__law_digit := fun_mk (st := s__law_digit) l__law_digit c__law_digit k__law_digit
  have B__law_digit := F__law_digit.binds (ps := ["_law_pot_here", "_law_many"]) fun _ _ _ _ _ _ us hl => match us, hl with | [_, _], _ => rfl
  have F__law_names := fun_mk (st := s__law_names) l__law_names c__law_names k__law_names
  have B__law_names := F__law_names.binds (ps := ["_law_pot_here", "_law_many"]) fun _ _ _ _ _ _ us hl => match us, hl with | [_, _], _ => rfl
  have F__law_merged := fun_mk (st := s__law_merged) l__law_merged c__law_merged k__law_merged
  have B__law_merged := F__law_merged.binds (ps := ["_law_rows"]) fun _ _ _ _ _ _ us hl => match us, hl with | [_], _ => rfl
  have F__law_line := fun_mk (st := s__law_line) l__law_line c__law_line k__law_line
  have B__law_line := F__law_line.binds (ps := ["_law_lines", "_law_kind", "_law_own"]) fun _ _ _ _ _ _ us hl => match us, hl with | [_, _, _], _ => rfl
  have F__law_parents := fun_mk (st := s__law_parents) l__law_parents c__law_parents k__law_parents
  have B__law_parents := F__law_parents.binds (ps := ["_law_pot_here", "_law_made"]) fun _ _ _ _ _ _ us hl => match us, hl with | [_, _], _ => rfl
  have F__law_family := fun_mk (st := s__law_family) l__law_family c__law_family k__law_family
  have B__law_family := F__law_family.binds (ps := ["_law_pot_here", "_law_kinds"]) fun _ _ _ _ _ _ us hl => match us, hl with | [_, _], _ => rfl
  have F__law_family_tuple := fun_mk (st := s__law_family_tuple) l__law_family_tuple c__law_family_tuple k__law_family_tuple
  have B__law_family_tuple := F__law_family_tuple.binds (ps := ["_law_parents_here"]) fun _ _ _ _ _ _ us hl => match us, hl with | [_], _ => rfl
  have F__law_number := fun_mk (st := s__law_number) l__law_number c__law_number k__law_number
  have B__law_number := F__law_number.binds (ps := ["_law_pot_here"]) fun _ _ _ _ _ _ us hl => match us, hl with | [_], _ => rfl
  have F__law_step := fun_mk (st := s__law_step) l__law_step c__law_step k__law_step
  have B__law_step := F__law_step.binds (ps := ["_law_pot_here", "_law_names_here", "_law_at"]) fun _ _ _ _ _ _ us hl => match us, hl with | [_, _, _], _ => rfl
  have F__law_entry := fun_mk (st := s__law_entry) l__law_entry c__law_entry k__law_entry
  have B__law_entry := F__law_entry.binds (ps := ["_law_pot_here", "_law_names_here", "_law_at"]) fun _ _ _ _ _ _ us hl => match us, hl with | [_, _, _], _ => rfl
  have F__law_book_tuple := fun_mk (st := s__law_book_tuple) l__law_book_tuple c__law_book_tuple k__law_book_tuple
  have B__law_book_tuple := F__law_book_tuple.binds (ps := ["_law_book"]) fun _ _ _ _ _ _ us hl => match us, hl with | [_], _ => rfl
  have F__law_deed := fun_mk (st := s__law_deed) l__law_deed c__law_deed k__law_deed
  have B__law_deed := F__law_deed.binds (ps := ["_law_pot_here", "_law_book", "_law_kinds", "_law_names_here"]) fun _ _ _ _ _ _ us hl => match us, hl with | [_, _, _, _], _ => rfl
  have F__law_done := fun_mk (st := s__law_done) l__law_done c__law_done k__law_done
  have B__law_done := F__law_done.binds (ps := ["_law_family_here", "_law_book", "_law_deed_here"]) fun _ _ _ _ _ _ us hl => match us, hl with | [_, _, _], _ => rfl
  have F_law := fun_mk (st := s_law) l_law c_law k_law
  have B_law := F_law.binds (ps := ["_law_script"]) fun _ _ _ _ _ _ us hl => match us, hl with | [_], _ => rfl
  have ml_name_given : (P_name_given, ("name_given.<locals>.<lambda>" : Str)) ∈ [(P_name_given, ("name_given.<locals>.<lambda>" : Str))] := List.mem_singleton.mpr rfl
  have mu_name_given : ∀ p ∈ [(P_name_given, ("name_given.<locals>.<lambda>" : Str))], p.1 = P_name_given → p.2 = ("name_given.<locals>.<lambda>" : Str) := fun p hp _ => by rw [List.mem_singleton.mp hp]
  letI tabs : TabsC := ⟨[(P_name_given, ("name_given.<locals>.<lambda>" : Str))]⟩
  refine ⟨PySem.W.fnOf "law" "law" (defArgs s_law) (defBody s_law) (defScope s_law) .none kv_law dc_law pm_law an_law cd_law ct_law, [(c_name_given, P_name_given)], spLawT [(P_name_given, ("name_given.<locals>.<lambda>" : Str))] K, (all_cons (tb_name_given) (all_nil)), (all_cons (nk_name_given) (all_nil)), (all_cons (codeHd_in X lk_name_given v11_name_given v18_name_given v7_name_given v9_name_given v10_name_given ne_name_given) (all_nil)), fun s v => .of_eq rfl, fun H a ns hl _ hT hS => ⟨(all_cons (hT (c_name_given, P_name_given) (by simp)) (all_nil)), a, ns, rfl, hS, hl, fun _ => rfl⟩, fun base hK hG hTB => ?_⟩
  have TB_name_given : LamX.TabB base mg c_name_given P_name_given := hTB (c_name_given, P_name_given) (by simp)
  have T_is_name : Has l.prog w K mg base "is_name" ["thing"] 1 w_is_name := ⟨_, _, ok_is_name F_is_name nb ⟨_, PySem.W.mg_of X G g_LETTERS⟩ ⟨_, PySem.W.mg_of X G g_MOST_LETTERS⟩, PySem.W.mg_of X G a_is_name, k_is_name, B_is_name⟩
  have T_is_whole : Has l.prog w K mg base "is_whole" ["thing"] 1 w_is_whole := ⟨_, _, ok_is_whole F_is_whole nb, PySem.W.mg_of X G a_is_whole, k_is_whole, B_is_whole⟩
  have T_is_step : Has l.prog w K mg base "is_step" ["thing"] 2 w_is_step := ⟨_, _, ok_is_step F_is_step nb ⟨_, PySem.W.mg_of X G g_MOST_TIMES⟩ T_is_name T_is_whole, PySem.W.mg_of X G a_is_step, k_is_step, B_is_step⟩
  have T_are_steps : Has l.prog w K mg base "are_steps" ["thing"] 3 w_are_steps := ⟨_, _, ok_are_steps F_are_steps nb ⟨_, PySem.W.mg_of X G g_MOST_STEPS⟩ T_is_step, PySem.W.mg_of X G a_are_steps, k_are_steps, B_are_steps⟩
  have T_is_entry : Has l.prog w K mg base "is_entry" ["thing"] 4 w_is_entry := ⟨_, _, ok_is_entry F_is_entry nb T_are_steps T_is_name T_is_whole, PySem.W.mg_of X G a_is_entry, k_is_entry, B_is_entry⟩
  have T_kinds_of : Has l.prog w K mg base "kinds_of" ["family"] 1 w_kinds_of := ⟨_, _, ok_kinds_of F_kinds_of nb, PySem.W.mg_of X G a_kinds_of, k_kinds_of, B_kinds_of⟩
  have T_need_kind : Has l.prog w K mg base "need_kind" ["family", "kind"] 2 w_need_kind := ⟨_, _, ok_need_kind F_need_kind nb T_kinds_of X_NoKind, PySem.W.mg_of X G a_need_kind, k_need_kind, B_need_kind⟩
  have T_entry_of : Has l.prog w K mg base "entry_of" ["book", "kind", "name"] 1 w_entry_of := ⟨_, _, ok_entry_of F_entry_of nb, PySem.W.mg_of X G a_entry_of, k_entry_of, B_entry_of⟩
  have T_book_without : Has l.prog w K mg base "book_without" ["book", "kind", "name"] 1 w_book_without := ⟨_, _, ok_book_without F_book_without nb, PySem.W.mg_of X G a_book_without, k_book_without, B_book_without⟩
  have T_name_given : Has l.prog w K mg base "name_given" ["family", "book", "kind", "name", "entry"] 5 w_name_given := ⟨_, _, ok_name_given F_name_given nb T_book_without T_is_entry T_is_name T_need_kind X_NoEntry X_NoName rfl TB_name_given ml_name_given mu_name_given, PySem.W.mg_of X G a_name_given, k_name_given, B_name_given⟩
  have T_name_taken : Has l.prog w K mg base "name_taken" ["family", "book", "kind", "name"] 3 w_name_taken := ⟨_, _, ok_name_taken F_name_taken nb T_book_without T_entry_of T_is_name T_need_kind X_NoName, PySem.W.mg_of X G a_name_taken, k_name_taken, B_name_taken⟩
  have T__law_pot : Has l.prog w K mg base "_law_pot" ["_law_script", "_law_k"] 1 w__law_pot := ⟨_, _, ok__law_pot F__law_pot nb, PySem.W.mg_of X G a__law_pot, k__law_pot, B__law_pot⟩
  have T__law_digit : Has l.prog w K mg base "_law_digit" ["_law_pot_here", "_law_many"] 1 w__law_digit := ⟨_, _, ok__law_digit F__law_digit nb, PySem.W.mg_of X G a__law_digit, k__law_digit, B__law_digit⟩
  have T__law_names : Has l.prog w K mg base "_law_names" ["_law_pot_here", "_law_many"] 2 w__law_names := ⟨_, _, ok__law_names F__law_names nb T__law_digit, PySem.W.mg_of X G a__law_names, k__law_names, B__law_names⟩
  have T__law_merged : Has l.prog w K mg base "_law_merged" ["_law_rows"] 1 w__law_merged := ⟨_, _, ok__law_merged F__law_merged nb, PySem.W.mg_of X G a__law_merged, k__law_merged, B__law_merged⟩
  have T__law_line : Has l.prog w K mg base "_law_line" ["_law_lines", "_law_kind", "_law_own"] 2 w__law_line := ⟨_, _, ok__law_line F__law_line nb T__law_merged, PySem.W.mg_of X G a__law_line, k__law_line, B__law_line⟩
  have T__law_parents : Has l.prog w K mg base "_law_parents" ["_law_pot_here", "_law_made"] 2 w__law_parents := ⟨_, _, ok__law_parents F__law_parents nb T__law_digit, PySem.W.mg_of X G a__law_parents, k__law_parents, B__law_parents⟩
  have T__law_family : Has l.prog w K mg base "_law_family" ["_law_pot_here", "_law_kinds"] 3 w__law_family4 := ⟨_, _, ok__law_family F__law_family nb T__law_line T__law_parents, PySem.W.mg_of X G a__law_family, k__law_family, B__law_family⟩
  have T__law_family_tuple : Has l.prog w K mg base "_law_family_tuple" ["_law_parents_here"] 1 w__law_family_tuple := ⟨_, _, ok__law_family_tuple F__law_family_tuple nb, PySem.W.mg_of X G a__law_family_tuple, k__law_family_tuple, B__law_family_tuple⟩
  have T__law_number : Has l.prog w K mg base "_law_number" ["_law_pot_here"] 2 w__law_number := ⟨_, _, ok__law_number F__law_number nb T__law_digit, PySem.W.mg_of X G a__law_number, k__law_number, B__law_number⟩
  have T__law_step : Has l.prog w K mg base "_law_step" ["_law_pot_here", "_law_names_here", "_law_at"] 3 w__law_step := ⟨_, _, ok__law_step F__law_step nb T__law_digit T__law_number, PySem.W.mg_of X G a__law_step, k__law_step, B__law_step⟩
  have T__law_entry : Has l.prog w K mg base "_law_entry" ["_law_pot_here", "_law_names_here", "_law_at"] 4 w__law_entry := ⟨_, _, ok__law_entry F__law_entry nb T__law_digit T__law_number T__law_step, PySem.W.mg_of X G a__law_entry, k__law_entry, B__law_entry⟩
  have T__law_book_tuple : Has l.prog w K mg base "_law_book_tuple" ["_law_book"] 1 w__law_book_tuple := ⟨_, _, ok__law_book_tuple F__law_book_tuple nb, PySem.W.mg_of X G a__law_book_tuple, k__law_book_tuple, B__law_book_tuple⟩
  have T__law_deed : Has l.prog w K mg base "_law_deed" ["_law_pot_here", "_law_book", "_law_kinds", "_law_names_here"] 5 w__law_deed := ⟨_, _, ok__law_deed F__law_deed nb T__law_digit T__law_entry, PySem.W.mg_of X G a__law_deed, k__law_deed, B__law_deed⟩
  have T__law_done : Has l.prog w K mg base "_law_done" ["_law_family_here", "_law_book", "_law_deed_here"] 6 w__law_done := ⟨_, _, ok__law_done F__law_done nb T_name_given T_name_taken, PySem.W.mg_of X G a__law_done, k__law_done, B__law_done⟩
  exact (ok_law (P := l.prog) (w := w) (base := base) F_law nb T__law_book_tuple T__law_deed T__law_digit T__law_done T__law_family T__law_family_tuple T__law_names T__law_pot).imp fun vs H Q E h => law_in h.1 hlaw h.2
theorem walk {l : PySem.W.OpenLaw} {q : Program} {loose : List Str} {XP : (Str → Option Value) → Heap → Prop} {YP : World → Heap → Prop} {d : DefRec} {K : Params → Fg} (hn : l.most = some 63) (hdf : d.params.defaults = [])
    (hY : ∀ (w : World) (h : Heap), YP w h → (K w.params).In h)
    (F : ∀ (w : World) (mg : Str → Option Value) (fa : Addr) (h : Heap), YP w h → (K w.params).In h → h.Ns mainGlobals mg → mg d.name = some (.ref fa) → LamX.LawAtS l w (K w.params) (LM.CX true l.prog w) 7 63 "_law_script" mg fa h) :
    PySem.W.WalkO q loose XP YP l.row.toRowW d [] (fun f vs => PySem.call f vs) :=
  LamX.walk_ofTs (n := 63) (k := 7) (x := "_law_script") (CX := fun w => LM.CX true l.prog w) hn (by decide) hdf ⟨rfl, by decide, by decide⟩ hY F fun _ _ _ _ _ z => haveI : TabsC := ⟨[]⟩; no_cx z
end Dl
open PySem PySem.W PyProof.Rows
set_option maxRecDepth 100000 in
set_option maxHeartbeats 0 in
theorem PySem.Challenge.cw_parentlines_k33_given_and_taken_holds : PySem.Challenge.rw_parentlines_k33_given_and_taken.Holds := by
  w_on; o_law; k_head; (case hw => w_witness2)
  k_fill
  refine Dl.walk (l := PySem.Challenge.rw_parentlines_k33_given_and_taken) rfl rfl (fun w h Y => PySem.W.km_in_of Y) ?F
  case F =>
    intro w mg fa h Y KX G hmg
    refine' Dl.all_mk KX G hmg ?n_NoName ?n_NoKind ?n_NoEntry ?s_NoName ?t_NoName ?kc_NoName ?x_NoName ?s_NoKind ?t_NoKind ?kc_NoKind ?x_NoKind ?s_NoEntry ?t_NoEntry ?kc_NoEntry ?x_NoEntry ?a_is_name ?l_is_name ?c_is_name ?k_is_name ?a_is_whole ?l_is_whole ?c_is_whole ?k_is_whole ?a_is_step ?l_is_step ?c_is_step ?k_is_step ?a_are_steps ?l_are_steps ?c_are_steps ?k_are_steps ?a_is_entry ?l_is_entry ?c_is_entry ?k_is_entry ?a_kinds_of ?l_kinds_of ?c_kinds_of ?k_kinds_of ?a_need_kind ?l_need_kind ?c_need_kind ?k_need_kind ?a_entry_of ?l_entry_of ?c_entry_of ?k_entry_of ?a_book_without ?l_book_without ?c_book_without ?k_book_without ?a_name_given ?l_name_given ?cd_name_given ?k_name_given ?lk_name_given ?v11_name_given ?v18_name_given ?v7_name_given ?v9_name_given ?v10_name_given ?ne_name_given ?nk_name_given ?tb_name_given ?a_name_taken ?l_name_taken ?c_name_taken ?k_name_taken ?a__law_pot ?l__law_pot ?c__law_pot ?k__law_pot ?a__law_digit ?l__law_digit ?c__law_digit ?k__law_digit ?a__law_names ?l__law_names ?c__law_names ?k__law_names ?a__law_merged ?l__law_merged ?c__law_merged ?k__law_merged ?a__law_line ?l__law_line ?c__law_line ?k__law_line ?a__law_parents ?l__law_parents ?c__law_parents ?k__law_parents ?a__law_family ?l__law_family ?c__law_family ?k__law_family ?a__law_family_tuple ?l__law_family_tuple ?c__law_family_tuple ?k__law_family_tuple ?a__law_number ?l__law_number ?c__law_number ?k__law_number ?a__law_step ?l__law_step ?c__law_step ?k__law_step ?a__law_entry ?l__law_entry ?c__law_entry ?k__law_entry ?a__law_book_tuple ?l__law_book_tuple ?c__law_book_tuple ?k__law_book_tuple ?a__law_deed ?l__law_deed ?c__law_deed ?k__law_deed ?a__law_done ?l__law_done ?c__law_done ?k__law_done ?a_law ?l_law ?c_law ?k_law ?b_len ?b_abs ?b_max ?b_min ?b_tuple ?b_list ?b_all ?b_any ?b_sorted ?b_set ?b_isinstance ?b_range ?b_enumerate ?b_zip ?b_int ?b_str ?b_bool ?b_dict ?b_repr ?b_sum ?b_type ?b_reversed ?g_LETTERS ?g_MOST_LETTERS ?g_MOST_STEPS ?g_MOST_TIMES Dl.law_true
    (case n_NoName => k_is)
    (case n_NoKind => k_is)
    (case n_NoEntry => k_is)
    (case s_NoName => k_is)
    (case t_NoName => k_is)
    (case kc_NoName => k_is)
    (case x_NoName => k_exc)
    (case s_NoKind => k_is)
    (case t_NoKind => k_is)
    (case kc_NoKind => k_is)
    (case x_NoKind => k_exc)
    (case s_NoEntry => k_is)
    (case t_NoEntry => k_is)
    (case kc_NoEntry => k_is)
    (case x_NoEntry => k_exc)
    (case a_is_name => k_is)
    (case l_is_name => k_is)
    (case c_is_name => k_is)
    (case k_is_name => k_is)
    (case a_is_whole => k_is)
    (case l_is_whole => k_is)
    (case c_is_whole => k_is)
    (case k_is_whole => k_is)
    (case a_is_step => k_is)
    (case l_is_step => k_is)
    (case c_is_step => k_is)
    (case k_is_step => k_is)
    (case a_are_steps => k_is)
    (case l_are_steps => k_is)
    (case c_are_steps => k_is)
    (case k_are_steps => k_is)
    (case a_is_entry => k_is)
    (case l_is_entry => k_is)
    (case c_is_entry => k_is)
    (case k_is_entry => k_is)
    (case a_kinds_of => k_is)
    (case l_kinds_of => k_is)
    (case c_kinds_of => k_is)
    (case k_kinds_of => k_is)
    (case a_need_kind => k_is)
    (case l_need_kind => k_is)
    (case c_need_kind => k_is)
    (case k_need_kind => k_is)
    (case a_entry_of => k_is)
    (case l_entry_of => k_is)
    (case c_entry_of => k_is)
    (case k_entry_of => k_is)
    (case a_book_without => k_is)
    (case l_book_without => k_is)
    (case c_book_without => k_is)
    (case k_book_without => k_is)
    (case a_name_given => k_is)
    (case l_name_given => k_is)
    (case cd_name_given => k_is)
    (case k_name_given => k_is)
    (case lk_name_given => k_is)
    (case v11_name_given => rfl)
    (case v18_name_given => rfl)
    (case v7_name_given => rfl)
    (case v9_name_given => rfl)
    (case v10_name_given => rfl)
    (case ne_name_given => decide)
    (case nk_name_given => first | rfl | decide +kernel)
    (case tb_name_given => exact PySem.W.km_tabs_of Y _ (by decide))
    (case a_name_taken => k_is)
    (case l_name_taken => k_is)
    (case c_name_taken => k_is)
    (case k_name_taken => k_is)
    (case a__law_pot => k_is)
    (case l__law_pot => k_is)
    (case c__law_pot => k_is)
    (case k__law_pot => k_is)
    (case a__law_digit => k_is)
    (case l__law_digit => k_is)
    (case c__law_digit => k_is)
    (case k__law_digit => k_is)
    (case a__law_names => k_is)
    (case l__law_names => k_is)
    (case c__law_names => k_is)
    (case k__law_names => k_is)
    (case a__law_merged => k_is)
    (case l__law_merged => k_is)
    (case c__law_merged => k_is)
    (case k__law_merged => k_is)
    (case a__law_line => k_is)
    (case l__law_line => k_is)
    (case c__law_line => k_is)
    (case k__law_line => k_is)
    (case a__law_parents => k_is)
    (case l__law_parents => k_is)
    (case c__law_parents => k_is)
    (case k__law_parents => k_is)
    (case a__law_family => k_is)
    (case l__law_family => k_is)
    (case c__law_family => k_is)
    (case k__law_family => k_is)
    (case a__law_family_tuple => k_is)
    (case l__law_family_tuple => k_is)
    (case c__law_family_tuple => k_is)
    (case k__law_family_tuple => k_is)
    (case a__law_number => k_is)
    (case l__law_number => k_is)
    (case c__law_number => k_is)
    (case k__law_number => k_is)
    (case a__law_step => k_is)
    (case l__law_step => k_is)
    (case c__law_step => k_is)
    (case k__law_step => k_is)
    (case a__law_entry => k_is)
    (case l__law_entry => k_is)
    (case c__law_entry => k_is)
    (case k__law_entry => k_is)
    (case a__law_book_tuple => k_is)
    (case l__law_book_tuple => k_is)
    (case c__law_book_tuple => k_is)
    (case k__law_book_tuple => k_is)
    (case a__law_deed => k_is)
    (case l__law_deed => k_is)
    (case c__law_deed => k_is)
    (case k__law_deed => k_is)
    (case a__law_done => k_is)
    (case l__law_done => k_is)
    (case c__law_done => k_is)
    (case k__law_done => k_is)
    (case a_law => k_is)
    (case l_law => k_is)
    (case c_law => k_is)
    (case k_law => k_is)
    (case b_len => k_is)
    (case b_abs => k_is)
    (case b_max => k_is)
    (case b_min => k_is)
    (case b_tuple => k_is)
    (case b_list => k_is)
    (case b_all => k_is)
    (case b_any => k_is)
    (case b_sorted => k_is)
    (case b_set => k_is)
    (case b_isinstance => k_is)
    (case b_range => k_is)
    (case b_enumerate => k_is)
    (case b_zip => k_is)
    (case b_int => k_is)
    (case b_str => k_is)
    (case b_bool => k_is)
    (case b_dict => k_is)
    (case b_repr => k_is)
    (case b_sum => k_is)
    (case b_type => k_is)
    (case b_reversed => k_is)
    (case g_LETTERS => k_is)
    (case g_MOST_LETTERS => k_is)
    (case g_MOST_STEPS => k_is)
    (case g_MOST_TIMES => k_is)
