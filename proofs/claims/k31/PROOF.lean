import PyProof.Rows.All
import Wide.All
import OpenK.AllK
import Wide.FinOn
import HandS.ForMost
import HandS.ForExc
import HandS.Wide
import HandS.CallSlots
import HandS.ExcCtx
import HandS.SuiteRaise
import HandS.Lambda
import HandS.TupAny
import HandS.Strs
import HandS.Style
import HandS.IsInst
import HandS.Deep
import PyProof.Rows.SetFrom
import HandS.SetFor
import HandS.More
import HandS.Zip
import HandS.Conv
import KE.DataFind
import HandS.SetKeys
import HandS.RaiseOp
import HandS.Small
import HandS.NoneIn
import KE.SortData
import KE.DataMinMax
import HandS.Walk
import KE.GoesEnum
import KE.OsSortAny
import HandS.ExcInit
import HandS.ExcField
import HandS.ClsMeth
import HandS.IterVal
import KE.KDictZip
import HandS.TryElse
import HandS.Finally
import HandS.DictTup
import HandS.Defaults
import HandS.RaiseFrom
import HandS.ExcInitHot
import KE.KAsSuite
import HandS.Text
import HandS.ExcIs
import KE.KExcIs
import KE.KDictPairs
import HandS.TryOnly
import HandS.Iter
import HandS.TupLen
import KE.KEqDict
import KE.GoesZip
import KE.GoesMore
import KE.KDictItemsList
import PyProof.ReprReads
import KE.SortKeyHeap
import HandS.EndTab
import KE.KTryMore
import HandS.Flow
import HandS.TupMul
import KE.DataEq
import PyProof.ReprRoads
import PyProof.StrLawsRepr
import PySem.Challenge.RW_parentlines_k31_entries_told_apart
set_option Elab.async false
set_option linter.all false
set_option maxRecDepth 100000
set_option maxHeartbeats 4000000
set_option maxHeartbeats 8000000
/-! ### exceptions whose context is None, or one whose context is None -/
namespace LM
open PySem PySem.Spec PyProof.Rows L2
abbrev St := L2.St
/-- the context, as it stands -/
abbrev Ctx := Option (Addr × Obj)
def cv : Ctx → Value
  | none => .none
  | some p => .ref p.1
def Zm (cls : Value) (d : Option Addr) (c : Ctx) : Obj → Prop := fun o => o.cls = cls ∧ o.dict = d ∧ ∀ vs : Array Value, o.data = .fields vs → vs[2]? = some (cv c)
theorem steady_cv {c : Ctx} : PXN.Steady1 (fun o => ∀ vs : Array Value, o.data = .fields vs → vs[2]? = some (cv c)) := fun o v h => by
  obtain ⟨k, d, dt, sl⟩ := o
  cases dt with
  | fields vs0 =>
    intro vs e
    have e2 : vs0.setIfInBounds 1 v = vs := Data.fields.inj e
    have e3 : (vs0.setIfInBounds 1 v)[2]? = vs0[2]? := by
      first
      | exact Array.getElem?_setIfInBounds_ne (by decide)
      | simp [Array.getElem?_setIfInBounds]
    rw [← e2, e3]
    exact h vs0 rfl
  | _ =>
    intro vs e
    first
    | exact Data.noConfusion e
    | cases e
theorem Zm.steady {cls : Value} {d : Option Addr} {c : Ctx} : PXN.Steady1 (Zm cls d c) := fun o v h => ⟨PXN.steady_cls o v h.1, PXN.steady_dict o v h.2.1, steady_cv o v h.2.2⟩
/-- F: whether there may be a context at all -/
def CtxOk (F : Bool) (B : Heap) (H : Hp) (c : Ctx) : Prop := ∀ p, c = some p → F = true ∧ B.get? p.1 = some p.2 ∧ H p.1 = none ∧ ∃ vy : Array Value, p.2.data = .fields vy ∧ vy[2]? = some .none
theorem ctx_none {F : Bool} {B : Heap} {H : Hp} : CtxOk F B H none := fun _ e => nomatch e
theorem CtxOk.imp {F : Bool} {B : Heap} {H : Hp} {c : Ctx} (h : CtxOk F B H c) : CtxOk true B H c := fun p e => ⟨rfl, (h p e).2⟩
def XE (F : Bool) (X : Cx) (W : WX) (u : Value) (s' : Shared) : Prop :=
  ∃ (a : Addr) (B : Heap) (sI : Shared) (pins : List (Addr × Obj)) (σ : St) (H : Hp) (cls : Value) (d : Option Addr) (c : Ctx),
    u = .ref a ∧ Inv X pins σ H sI ∧ (∀ b o, sI.heap.get? b = some o → b ∉ frs X.stack → B.get? b = some o) ∧ sI.heap.UpToSlots s'.heap ∧
      Sky B X.stack a (Zm cls d c) X.env.locals s'.heap ∧ H a = none ∧ s'.os = sI.os ∧ AllBare s'.gens ∧ CtxOk F B H c ∧ W cls d σ H
def Takes (F : Bool) (X : Cx) (W : WX) : Prop := ∀ u s', XE F X W u s' → X.xe u s'
theorem takesN {X : Cx} {W : WX} : L2N.Takes X W ↔ Takes false X W := by
  constructor
  · rintro t u s' ⟨a, B, sI, pins, σ, H, cls, d, c, e, I, nb, up, sky, na, os, ag, ck, w⟩
    cases c with
    | none => exact t u s' ⟨a, B, sI, pins, σ, H, cls, d, e, I, nb, up, sky, na, os, ag, w⟩
    | some p => exact Bool.noConfusion (ck p rfl).1
  · rintro t u s' ⟨a, B, sI, pins, σ, H, cls, d, e, I, nb, up, sky, na, os, ag, w⟩
    exact t u s' ⟨a, B, sI, pins, σ, H, cls, d, none, e, I, nb, up, sky, na, os, ag, ctx_none, w⟩
theorem tn_of {X : Cx} {W : WX} (t : Takes true X W) : L2N.Takes X W := takesN.mpr fun u s' ⟨a, B, sI, pins, σ, H, cls, d, c, e, I, nb, up, sky, na, os, ag, ck, w⟩ => t u s' ⟨a, B, sI, pins, σ, H, cls, d, c, e, I, nb, up, sky, na, os, ag, ck.imp, w⟩
def CX (F : Bool) (P : Program) (w : World) (outer : List Env) (H : Hp) (s : Shared) (E : XK) (u : Value) (s' : Shared) : Prop :=
  ∃ (a : Addr) (B : Heap) (H' : Hp) (cls : Value) (d : Option Addr) (c : Ctx), u = .ref a ∧ HandSPX.FlyingZ B outer a (Zm cls d c) s'.heap ∧ HOk P w H' B ∧ UB (frs outer) H H' s.heap B s'.heap ∧ H' a = none ∧ s'.os = s.os ∧ AllBare s'.gens ∧ CtxOk F B H' c ∧ E cls d H'
section
variable {F : Bool} {X : Cx} {pins : List (Addr × Obj)} {σ : St} {H : Hp} {sI s s' : Shared} {B : Heap} {W : WX} {E : XK}
/-- a call's exception is in our air -/
theorem XE.of_call (I : Inv X pins σ H s) (hW : ∀ cls d H', E cls d H' → W cls d σ H') {u : Value} (c : CX F X.prog X.w X.stack H s E u s') : XE F X W u s' := by
  obtain ⟨a, B, H', cls, d, c, rfl, fl, hok, ub, na, os, ag, ck, hE⟩ := c
  obtain ⟨G, g1, g2⟩ := restrict s'.heap fun b => (B.get? b).isSome || decide (b ∈ frs X.stack)
  have st : B.StaysIn s'.heap := fl.1
  have gB : ∀ b o, B.get? b = some o → G.get? b = some o := fun b o e => by
    rw [g1 b (by simp [e])]
    exact st b o e
  have gF : ∀ b, b ∈ frs X.stack → G.get? b = s'.heap.get? b := fun b hb => g1 b (by simp [hb])
  have og : ∀ b o, G.get? b = some o → s'.heap.get? b = some o ∧ ((B.get? b).isSome = true ∨ b ∈ frs X.stack) := fun b o e => by
    cases q : ((B.get? b).isSome || decide (b ∈ frs X.stack)) with
    | false => rw [g2 b q] at e; cases e
    | true =>
      rw [g1 b q] at e
      exact ⟨e, by simpa [Bool.or_eq_true] using q⟩
  refine ⟨a, B, { s with heap := G, gens := s'.gens, drawn := s'.drawn, toks := s'.toks }, pins, σ, H', cls, d, c, rfl, ?_, fun b o e hb => ?_, Heap.UpToSlots.of_keeps fun b o e => (og b o e).1, .inr (.inl fl), na, os, ag, ck, hW _ _ _ hE⟩
  · refine I.call (ch := []) ⟨fun b o e n hb _ => gB b o (ub.keep b o e n hb), fun b o e n hb _ => ?_, fun b o e n _ => ub.free b o e n, fun b o e _ => ?_, ub.tups, ub.frzs, ub.tbls⟩ (hok.kept gB) ag (fun _ z => nomatch z)
    · obtain ⟨sl, q⟩ := ub.slot b o e hb
      exact ⟨sl, by rw [gF b hb]; exact q⟩
    · by_cases hb : b ∈ frs X.stack
      · obtain ⟨sl, q⟩ := ub.slot b o e hb
        exact ⟨_, by rw [gF b hb]; exact q⟩
      · obtain ⟨o', q⟩ := ub.there b o e hb
        exact ⟨o', gB b o' q⟩
  · obtain ⟨e', h⟩ := og b o e
    rcases h with h | h
    · obtain ⟨o', q⟩ := Option.isSome_iff_exists.mp h
      have z := st b o' q
      rw [e'] at z; cases z
      exact q
    · exact absurd h hb
/-- a new exception is in our air -/
theorem XE.new {a : Addr} {oe : Obj} {vs : Array Value} {cls : Value} {d : Option Addr} {c : Ctx} (I : Inv X pins σ H sI) (k : ∀ b o, sI.heap.get? b = some o → s'.heap.get? b = some o) (hne : sI.heap.get? a = none) (he : s'.heap.get? a = some oe)
    (hz : Zm cls d c oe) (hd : oe.data = .fields vs) (h1 : vs[1]? = some .none) (na : H a = none) (os : s'.os = sI.os) (ag : AllBare s'.gens) (ck : ∀ p, c = some p → F = true ∧ sI.heap.get? p.1 = some p.2 ∧ p.1 ∉ frs X.stack ∧ H p.1 = none ∧ ∃ vy : Array Value, p.2.data = .fields vy ∧ vy[2]? = some .none) (w : W cls d σ H) : XE F X W (.ref a) s' := by
  refine ⟨a, PySem.W.hideAll sI.heap (frs X.stack), sI, pins, σ, H, cls, d, c, rfl, I, fun b o e hb => PySem.W.hideAll_get _ e hb, Heap.UpToSlots.of_keeps k,
    .inl ⟨fun b o e => k b o (PySem.W.of_hideAll _ e), ?_, ?_, oe, vs, he, hz, hd, h1⟩, na, os, ag, fun p e => ?_, w⟩
  · cases q : (PySem.W.hideAll sI.heap (frs X.stack)).get? a with
    | none => rfl
    | some o =>
      have z := PySem.W.of_hideAll _ q
      rw [hne] at z; cases z
  · exact Heap.FunFrames.of_keeps (fun b o e _ => ⟨o, k b o e, rfl⟩) (funFrames_none I.stack fun b hb => PySem.W.hideAll_none _ hb)
  · obtain ⟨h1, h2, h3, h4, h5⟩ := ck p e
    exact ⟨h1, PySem.W.hideAll_get _ h2 h3, h4, h5⟩
/-- it leaves the def -/
theorem XE.leave (hs : X.stack = X.env :: X.outer) (hf : X.env.frame = some X.env.locals) (hex : X.ex = []) {E₁ : Value → Shared → Prop} (hW : ∀ cls d σ H, W cls d σ H → E cls d H) {u : Value} (x : XE F X W u s') :
    wpAny (model X.prog X.w) X.A (leaving X.env u) (fun _ s'' => CX F X.prog X.w X.outer X.H_0 X.s_0 E u s'') E₁ s' := by
  obtain ⟨a, B, sI, pins, σ, H, cls, d, c, rfl, I, nb, up, sky, na, os, ag, ck, w⟩ := x
  have hfr : X.A.frames = some (X.env :: X.outer) := by rw [I.ok.frames, hs]
  have nst : ∀ b o, X.s_0.heap.get? b = some o → b ∉ X.fs → b ∉ frs X.stack := fun b o e hb hm => by
    rcases List.mem_cons.mp (I.stkSub b hm) with z | z
    · have h1 := Heap.lt_size e
      have h2 := I.ok.above
      rw [z] at h1
      exact absurd (Nat.lt_of_lt_of_le h1 h2) (Nat.lt_irrefl _)
    · exact hb z
  have hex' : ∀ b, b ∉ X.ex := fun b hb => by rw [hex] at hb; cases hb
  have hokB := I.inGround nb
  have fin : ∀ h', HandSPX.FlyingZ B X.outer a (Zm cls d c) h' → s'.heap.UpToSlots h' → CX F X.prog X.w X.outer X.H_0 X.s_0 E (.ref a) { s' with heap := h' } := fun h' fl up' => by
    refine ⟨a, B, H, cls, d, c, rfl, fl, hokB, ⟨fun b o e n hb => nb b o (I.base.keep b o e n hb (hex' b)) (nst b o e hb), fun b o e hb => ?_, fun b o e n => I.base.free b o e n (hex' b), fun b o e hb => ?_, I.base.tups, I.base.frzs, I.base.tbls⟩,
      na, os.trans I.os, ag, ck, hW _ _ _ _ w⟩
    · obtain ⟨_, o₀, e₀, hnf⟩ := I.ok.funs.mem hb
      rw [e] at e₀; cases e₀
      obtain ⟨sl, e1⟩ := I.base.slot b o e (I.ok.frf b hb) hb (hex' b)
      obtain ⟨sl2, e2⟩ := up b _ e1 hnf
      obtain ⟨sl3, e3⟩ := up' b _ e2 hnf
      exact ⟨sl3, e3⟩
    · obtain ⟨o', e1⟩ := I.base.there b o e (hex' b)
      exact ⟨o', nb b o' e1 (nst b o e hb)⟩
  rw [hs] at sky
  rcases sky with ⟨hB, hn, hl, oe, vs, he, hz, hd, h1⟩ | fl | hd
  · exact PXN.leaving_firstZ Zm.steady hfr hl hf he hB hn hd h1 hz fin
  · exact PXN.leaves_onZ Zm.steady hfr hf fl fin
  · exact HandSPX.leaves_heldZ hf hd fin
theorem takes_of (hs : X.stack = X.env :: X.outer) (hf : X.env.frame = some X.env.locals) (hex : X.ex = []) {E₁ : Value → Shared → Prop}
    (hx : X.xe = fun e s' => wpAny (model X.prog X.w) X.A (leaving X.env e) (fun _ s'' => CX F X.prog X.w X.outer X.H_0 X.s_0 E e s'') E₁ s') : Takes F X (fun cls d _ H => E cls d H) := fun u s' x => by
  rw [hx]
  exact XE.leave (W := fun cls d _ H => E cls d H) (E := E) hs hf hex (fun _ _ _ _ h => h) x
theorem passAt {X : Cx} {W : WX} (tk : Takes F X W) (σ : St) : PassesAt (CX F X.prog X.w) X σ (WE W σ) := fun _ _ _ e s' I c => tk e s' (XE.of_call I (fun _ _ _ h => h) c)
end
/-- the head is the exception that is handled, behind it may stand its context -/
def HotL (A : Around) : List (Addr × Obj) → Prop
  | [] => False
  | q :: r => A.handled = some (.ref q.1) ∧ ∃ vs : Array Value, q.2.data = .fields vs ∧ (vs[2]? = some .none ∨ ∃ y ∈ r, vs[2]? = some (.ref y.1) ∧ ∃ vy : Array Value, y.2.data = .fields vy ∧ vy[2]? = some .none)
/-! #### try, clauses with or without names, else -/
end LM
/-! ### a layer of values over the hand layer: readings without addresses -/
namespace Dl
open PySem PySem.Spec PyProof.Rows L2
abbrev Fg := PySem.W.Frag
/-- the tables of code objects that change as the law runs (a def's that makes lambdas), and the name that each code object in it bears -/
class TabsC where
  T : List (Addr × Str)
variable [TabsC]
/-- data | a cell | a tuple that is a key of a dict | a pair that a walk hands out, of data, of a key and data | an exception that is handled, by its place -/
inductive W where
  | d (x : PyData)
  | c (k : Nat)
  | k (ks : List Key)
  | p (ds : List PyData)
  | q (ks : List Key) (x : PyData)
  | o (a : Addr) (d : Option Addr) (fs : List (Str × PyData))
  | t (xs : List (PyData ⊕ Nat))
  | e (i : Int) (ks : List Key)
/-- what stands in a tuple that holds cells -/
def tiW : PyData ⊕ Nat → W
  | .inl x => .d x
  | .inr k => .c k
inductive Cell where
  | lst (xs : List W)
  | dic (kvs : List (Key × W))
  | dct (kvs : List (List Key × W))
  | ldic (od : Obj) (es : List (Key × V)) (kvs : List (Key × W))
  | ldct (od : Obj) (es : List (List Key × V)) (kvs : List (List Key × W))
  | ins (C : Str) (fs : List (Str × W))
  | exn (C : Str) (fs : List (Str × PyData))
  | gone
abbrev Gm := List (Option W)
abbrev Oh := List Cell
structure Exn where
  cls : Str
  fs : List (Str × PyData)
abbrev DK := W → Oh → Prop
abbrev DX := Exn → Gm → Oh → Prop
abbrev DEx := Gm → Oh → DK → DX → Prop
abbrev DT := Gm → Oh → (Bool → Oh → Prop) → DX → Prop
abbrev DA := Gm → Oh → (List W → Oh → Prop) → DX → Prop
structure DEnds where
  nx : Gm → Oh → Prop
  rt : DK
  bk : Gm → Oh → Prop
  ct : Gm → Oh → Prop
abbrev DSt := DEnds → DX → Gm → Oh → Prop
abbrev DFn := List W → Oh → DK → (Exn → Oh → Prop) → Prop
/-! #### heaps that grow -/
def Ex (H H' : Hp) : Prop := ∀ a o, H a = some o → H' a = some o
theorem Ex.refl (H : Hp) : Ex H H := fun _ _ h => h
theorem Ex.trans {H H1 H2 : Hp} (a : Ex H H1) (b : Ex H1 H2) : Ex H H2 := fun x o h => b x o (a x o h)
theorem Ex.new {H : Hp} {p : Addr} {o : HO} (h : H p = none) : Ex H (upd H p o) := fun a u e => by
  rw [upd_ne (ne_of_none e h)]
  exact e
theorem Ex.free {H H' : Hp} {p : Addr} (e : Ex H H') (h : H' p = none) : H p = none := by
  cases h1 : H p with
  | none => rfl
  | some o => rw [e p o h1] at h; cases h
theorem Ex.rd {H H' : Hp} {a : Addr} {u : HO} (e : Ex H H') (h : Rd H a u) : Rd H' a u := by
  rcases h with h | ⟨o, h⟩
  · exact Or.inl (e a _ h)
  · exact Or.inr ⟨o, e a _ h⟩
theorem Ex.sqL {K : Fg} {H H' : Hp} {a : Addr} {xs : List V} (e : Ex H H') (h : SqL K H a xs) : SqL K H' a xs := h.imp e.rd id
theorem Ex.sqT {K : Fg} {H H' : Hp} {a : Addr} {xs : List V} (e : Ex H H') (h : SqT K H a xs) : SqT K H' a xs := h.imp e.rd id
/-! #### data that never changes -/
/-- the tuple at a has no dict of its own -/
def TD (K : Fg) (G : Hp) (a : Addr) : Prop := (∃ ob u, G a = some (.frz ob u) ∧ ob.dict = none) ∨ ∃ o, K.lookup a = some o ∧ o.dict = none
theorem TD.mono {K : Fg} {G G' : Hp} {a : Addr} (e : Ex G G') (h : TD K G a) : TD K G' a := h.imp (fun ⟨ob, u, h1, h2⟩ => ⟨ob, u, e _ _ h1, h2⟩) id
def keyD : Key → PyData
  | .inl i => .int i
  | .inr x => .str x
/-- texts of keys are texts -/
def keyOk : Key → Bool
  | .inl _ => true
  | .inr x => PyData.strOk x
mutual
inductive Rp (K : Fg) (G : Hp) : V → PyData → Prop
  | non : Rp K G .non .none
  | bl (b : Bool) : Rp K G (.bl b) (.bool b)
  | int (i : Int) : Rp K G (.int i) (.int i)
  | str (x : Str) : PyData.strOk x = true → Rp K G (.str x) (.str x)
  | lst {a : Addr} {xs : List V} {ds : List PyData} : G a = some (.lst xs) → RpL K G xs ds → Rp K G (.ref a) (.list ds)
  | tup {a : Addr} {xs : List V} {ds : List PyData} : SqT K G a xs → TD K G a → RpL K G xs ds → Rp K G (.ref a) (.tuple ds)
  | scr {a : Addr} (ns : List Int) : SqL K G a (ns.map V.int) → Rp K G (.ref a) (.dict [(.none, .list (ns.map PyData.int))])
  | dk {a : Addr} {ob : Obj} {es : List (Key × V)} {kvs : List (PyData × PyData)} : G a = some (.frz ob (.dK es)) → RpK K G es kvs → Rp K G (.ref a) (.dict kvs)
inductive RpL (K : Fg) (G : Hp) : List V → List PyData → Prop
  | nil : RpL K G [] []
  | cons {v : V} {vs : List V} {d : PyData} {ds : List PyData} : Rp K G v d → RpL K G vs ds → RpL K G (v :: vs) (d :: ds)
inductive RpK (K : Fg) (G : Hp) : List (Key × V) → List (PyData × PyData) → Prop
  | nil : RpK K G [] []
  | cons {k : Key} {v : V} {es : List (Key × V)} {q d : PyData} {kvs : List (PyData × PyData)} : q = keyD k → keyOk k = true → Rp K G v d → RpK K G es kvs → RpK K G ((k, v) :: es) ((q, d) :: kvs)
end
section
variable {K : Fg} {G G' : Hp}
mutual
theorem Rp.mono (e : Ex G G') : ∀ {d : PyData} {v : V}, Rp K G v d → Rp K G' v d
  | .none, _, h => by cases h; exact .non
  | .bool b, _, h => by cases h; exact .bl _
  | .int i, _, h => by cases h; exact .int _
  | .str x, _, h => by cases h with | str _ hx => exact .str _ hx
  | .list ds, _, h => by
    cases h with | lst hs ha => exact .lst (e _ _ hs) (RpL.mono e ha)
  | .tuple ds, _, h => by
    cases h with | tup hs td ha => exact .tup (e.sqT hs) (td.mono e) (RpL.mono e ha)
  | .dict kvs, _, h => by
    cases h with
    | scr ns h => exact .scr ns (e.sqL h)
    | dk hg hk => exact .dk (e _ _ hg) (RpK.mono e hk)
theorem RpL.mono (e : Ex G G') : ∀ {ds : List PyData} {vs : List V}, RpL K G vs ds → RpL K G' vs ds
  | [], _, h => by cases h; exact .nil
  | d :: ds, _, h => by
    cases h with | cons h1 h2 => exact .cons (Rp.mono e h1) (RpL.mono e h2)
theorem RpK.mono (e : Ex G G') : ∀ {kvs : List (PyData × PyData)} {es : List (Key × V)}, RpK K G es kvs → RpK K G' es kvs
  | [], _, h => by cases h; exact .nil
  | (q, d) :: kvs, _, h => by
    cases h with | cons h0 hk h1 h2 => exact .cons h0 hk (Rp.mono e h1) (RpK.mono e h2)
end
theorem RpL.length : ∀ {ds : List PyData} {vs : List V}, RpL K G vs ds → vs.length = ds.length
  | [], _, h => by cases h; rfl
  | d :: ds, _, h => by
    cases h with | cons h1 h2 => rw [List.length_cons, List.length_cons, RpL.length h2]
theorem RpL.get : ∀ {ds : List PyData} {vs : List V} {i : Nat} {d : PyData}, RpL K G vs ds → ds[i]? = some d → ∃ v, vs[i]? = some v ∧ Rp K G v d
  | [], _, _, _, _, e => by simp at e
  | d :: ds, _, 0, _, h, e => by
    cases h with
    | cons h1 h2 =>
      simp only [List.getElem?_cons_zero, Option.some.injEq] at e
      subst e
      exact ⟨_, rfl, h1⟩
  | d :: ds, _, i + 1, _, h, e => by
    cases h with
    | cons h1 h2 =>
      obtain ⟨v, q1, q2⟩ := RpL.get (i := i) h2 (by simpa using e)
      exact ⟨v, by simpa using q1, q2⟩
theorem RpL.append : ∀ {ds es : List PyData} {vs us : List V}, RpL K G vs ds → RpL K G us es → RpL K G (vs ++ us) (ds ++ es)
  | [], _, _, _, h, h' => by cases h; exact h'
  | d :: ds, _, _, _, h, h' => by
    cases h with | cons h1 h2 => exact .cons h1 (RpL.append h2 h')
theorem RpL.drop : ∀ {ds : List PyData} {vs : List V} (n : Nat), RpL K G vs ds → RpL K G (vs.drop n) (ds.drop n)
  | _, _, 0, h => h
  | [], _, n + 1, h => by cases h; exact .nil
  | d :: ds, _, n + 1, h => by
    cases h with | cons h1 h2 => exact RpL.drop n h2
theorem RpL.take : ∀ {ds : List PyData} {vs : List V} (n : Nat), RpL K G vs ds → RpL K G (vs.take n) (ds.take n)
  | _, _, 0, h => .nil
  | [], _, n + 1, h => by cases h; exact .nil
  | d :: ds, _, n + 1, h => by
    cases h with | cons h1 h2 => exact .cons h1 (RpL.take n h2)
theorem RpL.reverse : ∀ {ds : List PyData} {vs : List V}, RpL K G vs ds → RpL K G vs.reverse ds.reverse
  | [], _, h => by cases h; exact .nil
  | d :: ds, _, h => by
    cases h with
    | cons h1 h2 =>
      rw [List.reverse_cons, List.reverse_cons]
      exact (RpL.reverse h2).append (.cons h1 .nil)
theorem RpL.ints : ∀ (ns : List Int), RpL K G (ns.map V.int) (ns.map PyData.int)
  | [] => .nil
  | n :: r => .cons (.int n) (RpL.ints r)
/-! #### values -/
/-- the cells' addresses; what is hidden for a while, and stays -/
structure Al where
  as : List Addr
  hid : List (Addr × HO)
def Pre (α α' : Al) : Prop := α.as <+: α'.as ∧ α'.hid = α.hid
theorem Pre.refl (α : Al) : Pre α α := ⟨List.prefix_refl _, rfl⟩
theorem Pre.trans {α β γ : Al} (a : Pre α β) (b : Pre β γ) : Pre α γ := ⟨a.1.trans b.1, b.2.trans a.2⟩
def Al.push (α : Al) (p : Addr) : Al := ⟨α.as ++ [p], α.hid⟩
theorem Pre.push {α : Al} {p : Addr} : Pre α (α.push p) := ⟨List.prefix_append _ _, rfl⟩
def Al.cut (α : Al) (n : Nat) : Al := ⟨α.as.take n, α.hid⟩
theorem RpL.keys {K : Fg} {G : Hp} : ∀ {ks : List Key}, ks.all keyOk = true → RpL K G (ks.map kV) (ks.map keyD)
  | [], _ => .nil
  | .inl i :: r, h => by
    rw [List.all_cons, Bool.and_eq_true] at h
    exact .cons (.int i) (RpL.keys h.2)
  | .inr x :: r, h => by
    rw [List.all_cons, Bool.and_eq_true] at h
    exact .cons (.str x h.1) (RpL.keys h.2)
/-- an item of a tuple that holds cells -/
def Ri (K : Fg) (G : Hp) (α : Al) (v : V) : PyData ⊕ Nat → Prop
  | .inl x => Rp K G v x
  | .inr k => ∃ a, α.as[k]? = some a ∧ v = .ref a
def Rv (K : Fg) (G : Hp) (α : Al) (v : V) : W → Prop
  | .d x => Rp K G v x
  | .c k => ∃ a, α.as[k]? = some a ∧ v = .ref a
  | .k ks => ks.all keyOk = true ∧ ∃ a, v = .ref a ∧ G a = some (.tup (ks.map kV))
  | .p ds => ∃ a vs, v = .ref a ∧ SqT K G a vs ∧ RpL K G vs ds
  | .q ks x => ks.all keyOk = true ∧ ∃ a b u, v = .ref a ∧ SqT K G a [.ref b, u] ∧ G b = some (.tup (ks.map kV)) ∧ Rp K G u x
  | .o a d fs => v = .ref a ∧ (fs = [] → d = none) ∧ (fs ≠ [] → ∃ dd vs, d = some dd ∧ G dd = some (.xd vs) ∧ Paired (fun (p : Str × V) (q : Str × PyData) => p.1 = q.1 ∧ Rp K G p.2 q.2) vs fs)
  | .t xs => ∃ a vs, v = .ref a ∧ G a = some (.tup vs) ∧ Paired (Ri K G α) vs xs
  | .e i ks => ks.all keyOk = true ∧ ∃ a b, v = .ref a ∧ SqT K G a [.int i, .ref b] ∧ G b = some (.tup (ks.map kV))
abbrev RvL (K : Fg) (G : Hp) (α : Al) : List V → List W → Prop := Paired (Rv K G α)
variable {α α' : Al}
theorem fields_mono {K : Fg} {G G' : Hp} (e : Ex G G') : ∀ {vs : List (Str × V)} {fs : List (Str × PyData)}, Paired (fun (p : Str × V) (q : Str × PyData) => p.1 = q.1 ∧ Rp K G p.2 q.2) vs fs → Paired (fun (p : Str × V) (q : Str × PyData) => p.1 = q.1 ∧ Rp K G' p.2 q.2) vs fs
  | _, _, .nil => .nil
  | _, _, .cons h t => .cons ⟨h.1, h.2.mono e⟩ (fields_mono e t)
theorem pre_get {k : Nat} {a : Addr} (h : Pre α α') (e : α.as[k]? = some a) : α'.as[k]? = some a := by
  obtain ⟨⟨t, ht⟩, _⟩ := h
  rw [← ht, List.getElem?_append_left (List.getElem?_eq_some_iff.mp e).1]
  exact e
theorem RiL.mono (e : Ex G G') (p : Pre α α') : ∀ {vs : List V} {xs : List (PyData ⊕ Nat)}, Paired (Ri K G α) vs xs → Paired (Ri K G' α') vs xs
  | _, _, .nil => .nil
  | _, .inl x :: _, .cons h t => .cons (show Ri K G' α' _ (.inl x) from Rp.mono e h) (RiL.mono e p t)
  | _, .inr k :: _, .cons h t => .cons (show Ri K G' α' _ (.inr k) from by obtain ⟨a, h1, h2⟩ := h; exact ⟨a, pre_get p h1, h2⟩) (RiL.mono e p t)
theorem Rv.mono {v : V} {w : W} (e : Ex G G') (p : Pre α α') (h : Rv K G α v w) : Rv K G' α' v w := by
  cases w with
  | d x => exact Rp.mono e h
  | c k =>
    obtain ⟨a, h1, h2⟩ := h
    exact ⟨a, pre_get p h1, h2⟩
  | k ks =>
    obtain ⟨h0, a, h1, h2⟩ := h
    exact ⟨h0, a, h1, e _ _ h2⟩
  | p ds =>
    obtain ⟨a, vs, h1, h2, h3⟩ := h
    exact ⟨a, vs, h1, e.sqT h2, RpL.mono e h3⟩
  | q ks x =>
    obtain ⟨h0, a, b, u, h1, h2, h3, h4⟩ := h
    exact ⟨h0, a, b, u, h1, e.sqT h2, e _ _ h3, Rp.mono e h4⟩
  | o a d fs =>
    obtain ⟨h1, h0, h2⟩ := h
    refine ⟨h1, h0, fun z => ?_⟩
    obtain ⟨dd, vs, q1, q2, q3⟩ := h2 z
    exact ⟨dd, vs, q1, e _ _ q2, fields_mono e q3⟩
  | t xs =>
    obtain ⟨a, vs, h1, h2, h3⟩ := h
    exact ⟨a, vs, h1, e _ _ h2, RiL.mono e p h3⟩
  | e i ks =>
    obtain ⟨h0, a, b, h1, h2, h3⟩ := h
    exact ⟨h0, a, b, h1, e.sqT h2, e _ _ h3⟩
theorem RvL.mono (e : Ex G G') (p : Pre α α') : ∀ {vs : List V} {ws : List W}, RvL K G α vs ws → RvL K G' α' vs ws
  | _, _, .nil => .nil
  | _, _, .cons h t => .cons (h.mono e p) (RvL.mono e p t)
theorem RvL.ofD : ∀ {ds : List PyData} {vs : List V}, RpL K G vs ds → RvL K G α vs (ds.map W.d)
  | [], _, h => by cases h; exact .nil
  | d :: ds, _, h => by
    cases h with | cons h1 h2 => exact .cons h1 (RvL.ofD h2)
theorem RvL.toD : ∀ {ds : List PyData} {vs : List V}, RvL K G α vs (ds.map W.d) → RpL K G vs ds
  | [], _, h => by cases h; exact .nil
  | d :: ds, _, h => by
    cases h with | cons h1 h2 => exact .cons h1 (RvL.toD h2)
theorem RiL.rv : ∀ {vs : List V} {xs : List (PyData ⊕ Nat)}, Paired (Ri K G α) vs xs → RvL K G α vs (xs.map tiW)
  | _, _, .nil => .nil
  | _, .inl x :: _, .cons h t => .cons (show Rv K G α _ (.d x) from h) (RiL.rv t)
  | _, .inr k :: _, .cons h t => .cons (show Rv K G α _ (.c k) from h) (RiL.rv t)
theorem RvL.len {vs : List V} {ws : List W} (h : RvL K G α vs ws) : vs.length = ws.length := Paired.length h
theorem RvL.get : ∀ {vs : List V} {ws : List W} {i : Nat} {w : W}, RvL K G α vs ws → ws[i]? = some w → ∃ v, vs[i]? = some v ∧ Rv K G α v w
  | _, _, _, _, .nil, e => by simp at e
  | _, _, 0, _, .cons r _, e => by simp at e; subst e; exact ⟨_, rfl, r⟩
  | _, _, i + 1, x, .cons _ t, e => by
    obtain ⟨u, h1, h2⟩ := RvL.get (i := i) (w := x) t (by simpa using e)
    exact ⟨u, by simpa using h1, h2⟩
theorem RvL.append : ∀ {vs us : List V} {ws zs : List W}, RvL K G α vs ws → RvL K G α us zs → RvL K G α (vs ++ us) (ws ++ zs)
  | _, _, _, _, .nil, h => h
  | _, _, _, _, .cons r t, h => .cons r (RvL.append t h)
theorem RvL.set {v : V} {w : W} (h : Rv K G α v w) : ∀ {vs : List V} {ws : List W} (i : Nat), RvL K G α vs ws → RvL K G α (vs.set i v) (ws.set i w)
  | _, _, _, .nil => .nil
  | _, _, 0, .cons _ t => .cons h t
  | _, _, i + 1, .cons q t => .cons q (RvL.set h i t)
theorem RvL.drop : ∀ {vs : List V} {ws : List W} (n : Nat), RvL K G α vs ws → RvL K G α (vs.drop n) (ws.drop n)
  | _, _, 0, h => h
  | _, _, _ + 1, .nil => .nil
  | _, _, n + 1, .cons _ t => RvL.drop n t
theorem RvL.take : ∀ {vs : List V} {ws : List W} (n : Nat), RvL K G α vs ws → RvL K G α (vs.take n) (ws.take n)
  | _, _, 0, h => .nil
  | _, _, _ + 1, .nil => .nil
  | _, _, n + 1, .cons r t => .cons r (RvL.take n t)
/-! #### cells: what changes -/
def RK (K : Fg) (G : Hp) (α : Al) {κ : Type} : List (κ × V) → List (κ × W) → Prop := Paired fun (p : κ × V) (q : κ × W) => p.1 = q.1 ∧ Rv K G α p.2 q.2
theorem RK.mono {κ : Type} (e : Ex G G') (p : Pre α α') : ∀ {vs : List (κ × V)} {ws : List (κ × W)}, RK K G α vs ws → RK K G' α' vs ws
  | _, _, .nil => .nil
  | _, _, .cons h t => .cons ⟨h.1, h.2.mono e p⟩ (RK.mono e p t)
/-- an exception that was made, and stands as a value -/
def exv (a C : Addr) (d : Option Addr) : HO := .ext fun h => ∃ oe vs, h.get? a = some oe ∧ oe.cls = .ref C ∧ oe.dict = d ∧ oe.data = .fields vs
def XfOk (K : Fg) (G : Hp) (d : Option Addr) (fs : List (Str × PyData)) : Prop := (fs = [] → d = none) ∧ (fs ≠ [] → ∃ dd vs, d = some dd ∧ G dd = some (.xd vs) ∧ Paired (fun (p : Str × V) (q : Str × PyData) => p.1 = q.1 ∧ Rp K G p.2 q.2) vs fs)
theorem XfOk.mono {K : Fg} {G G' : Hp} {d : Option Addr} {fs : List (Str × PyData)} (e : Ex G G') (h : XfOk K G d fs) : XfOk K G' d fs := ⟨h.1, fun z => by
  obtain ⟨dd, vs, q1, q2, q3⟩ := h.2 z
  exact ⟨dd, vs, q1, e _ _ q2, fields_mono e q3⟩⟩
def COk (K : Fg) (mg : Str → Option Value) (G : Hp) (α : Al) (H : Hp) (a : Addr) : Cell → Prop
  | .lst xs => G a = none ∧ ∃ vs, H a = some (.lst vs) ∧ RvL K G α vs xs
  | .dic kvs => G a = none ∧ ∃ es, H a = some (.dK es) ∧ RK K G α es kvs
  | .dct kvs => G a = none ∧ ∃ es, H a = some (.dT es) ∧ RK K G α es kvs
  | .ldic od es kvs => G a = none ∧ H a = some (.frz od (.dK es)) ∧ RK K G α es kvs
  | .ldct od es kvs => G a = none ∧ H a = some (.frz od (.dT es)) ∧ RK K G α es kvs
  | .ins C fs => G a = none ∧ ∃ Ca dx es, mg C = some (.ref Ca) ∧ H a = some (.ins Ca dx es) ∧ H dx = some (.own a) ∧ G dx = none ∧ dx ∉ α.as ∧ RK K G α es fs
  | .exn C fs => G a = none ∧ ∃ Ca d, mg C = some (.ref Ca) ∧ H a = some (exv a Ca d) ∧ XfOk K G d fs
  | .gone => True
/-- no dict of an instance, no tuple -/
def NoOT (o : HO) : Prop := (∀ b, o ≠ .own b) ∧ ∀ xs, o ≠ .tup xs
/-- neither a cell nor hidden -/
def Off (α : Al) (b : Addr) : Prop := b ∉ α.as ∧ ∀ q ∈ α.hid, q.1 ≠ b
def TabK (G : Hp) (α : Al) (H : Hp) (P : Addr) (q : Str) : Prop := G P = none ∧ Off α P ∧ ∃ ps : Array Value, H P = some (.tbl ps) ∧ TriplesOk ps.toList ∧ ∀ (pos : Pos) (cv : Value), codeAmong pos ps.toList = some cv → ∃ c, cv = .ref c ∧ H c = some (LamX.CodeO c q) ∧ Off α c
def Tb (G : Hp) (α : Al) (H : Hp) : Prop := ∀ p ∈ TabsC.T, TabK G α H p.1 p.2
/-- a table, or a code object in it -/
def Tt (u : HO) : Prop := (∃ ps, u = .tbl ps) ∨ ∃ c q, u = LamX.CodeO c q
theorem Tt.lst {vs : List V} (h : Tt (.lst vs)) : False := h.elim (fun ⟨_, z⟩ => by cases z) fun ⟨_, _, z⟩ => by cases z
theorem Tt.tup {vs : List V} (h : Tt (.tup vs)) : False := h.elim (fun ⟨_, z⟩ => by cases z) fun ⟨_, _, z⟩ => by cases z
theorem Tt.frz {ob : Obj} {u : HO} (h : Tt (.frz ob u)) : False := h.elim (fun ⟨_, z⟩ => by cases z) fun ⟨_, _, z⟩ => by cases z
theorem Tb.mono {G G' : Hp} {α α' : Al} {H H' : Hp} (t : Tb G α H) (hG : ∀ b u, H b = some u → Tt u → Off α b → G b = none → G' b = none) (hH : ∀ b u, H b = some u → Tt u → Off α b → H' b = some u) (ho : ∀ b u, H b = some u → Tt u → Off α b → Off α' b) : Tb G' α' H' := fun p hp => by
  obtain ⟨g, o, ps, h1, h2, h3⟩ := t p hp
  have t1 : Tt (.tbl ps) := .inl ⟨_, rfl⟩
  refine ⟨hG _ _ h1 t1 o g, ho _ _ h1 t1 o, ps, hH _ _ h1 t1 o, h2, fun pos cv hc => ?_⟩
  obtain ⟨c, e, h4, h5⟩ := h3 pos cv hc
  exact ⟨c, e, hH _ _ h4 (.inr ⟨_, _, rfl⟩) h5, ho _ _ h4 (.inr ⟨_, _, rfl⟩) h5⟩
theorem Off.ne {α : Al} {a b : Addr} {k : Nat} (o : Off α b) (h1 : α.as[k]? = some a) : b ≠ a := fun z => o.1 (by rw [z]; exact List.mem_of_getElem? h1)
structure Rel (K : Fg) (mg : Str → Option Value) (G : Hp) (α : Al) (O : Oh) (H : Hp) : Prop where
  ex : Ex G H
  len : α.as.length = O.length
  nd : α.as.Nodup
  liv : ∀ a ∈ α.as, ∃ o, H a = some o
  at_ : ∀ (k : Nat) (a : Addr) (c : Cell), α.as[k]? = some a → O[k]? = some c → COk K mg G α H a c
  hd : ∀ p ∈ α.hid, H p.1 = some p.2 ∧ G p.1 = none ∧ p.1 ∉ α.as ∧ NoOT p.2
  tb : Tb G α H
structure Sl (K : Fg) (G : Hp) (α : Al) (Γ : Gm) (σ : L2.St) : Prop where
  len : Γ.length = σ.length
  at_ : ∀ (i : Nat) (w : W), Γ[i]? = some (some w) → ∃ v, σ[i]? = some (some v) ∧ Rv K G α v w
theorem Sl.mono {Γ : Gm} {σ : L2.St} (e : Ex G G') (p : Pre α α') (h : Sl K G α Γ σ) : Sl K G' α' Γ σ := ⟨h.len, fun i w q => by
  obtain ⟨v, h1, h2⟩ := h.at_ i w q
  exact ⟨v, h1, h2.mono e p⟩⟩
theorem Sl.set {Γ : Gm} {σ : L2.St} {v : V} {w : W} (h : Sl K G α Γ σ) (r : Rv K G α v w) (i : Nat) : Sl K G α (Γ.set i (some w)) (σ.set i (some v)) := ⟨by rw [List.length_set, List.length_set, h.len], fun j x q => by
  by_cases e : i = j
  · subst e
    by_cases hl : i < Γ.length
    · rw [List.getElem?_set_self hl] at q
      cases q
      refine ⟨v, ?_, r⟩
      rw [List.getElem?_set_self (by rw [← h.len]; exact hl)]
    · rw [List.set_eq_of_length_le (by omega)] at q
      have := (List.getElem?_eq_some_iff.mp q).1
      omega
  · rw [List.getElem?_set_ne e] at q
    obtain ⟨u, h1, h2⟩ := h.at_ j x q
    exact ⟨u, by rw [List.getElem?_set_ne e]; exact h1, h2⟩⟩
theorem Sl.forget {Γ : Gm} {σ : L2.St} (h : Sl K G α Γ σ) (i : Nat) (o : Option V) : Sl K G α (Γ.set i none) (σ.set i o) := ⟨by rw [List.length_set, List.length_set, h.len], fun j x q => by
  by_cases e : i = j
  · subst e
    by_cases hl : i < Γ.length
    · rw [List.getElem?_set_self hl] at q
      cases q
    · rw [List.set_eq_of_length_le (by omega)] at q
      have := (List.getElem?_eq_some_iff.mp q).1
      omega
  · rw [List.getElem?_set_ne e] at q
    obtain ⟨u, h1, h2⟩ := h.at_ j x q
    exact ⟨u, by rw [List.getElem?_set_ne e]; exact h1, h2⟩⟩
variable {mg : Str → Option Value} {O O' : Oh} {H H' : Hp}
theorem COk.mono {a : Addr} {c : Cell} (e : Ex G G') (p : Pre α α') (hn : G a = none → G' a = none) (hd : ∀ b, H b = some (.own a) → G b = none → b ∉ α.as → G' b = none ∧ b ∉ α'.as ∧ H' b = some (.own a)) (hH : ∀ o, H a = some o → H' a = some o)
    (h : COk K mg G α H a c) : COk K mg G' α' H' a c := by
  cases c with
  | lst xs =>
    obtain ⟨h0, vs, h1, h2⟩ := h
    exact ⟨hn h0, vs, hH _ h1, h2.mono e p⟩
  | dic kvs =>
    obtain ⟨h0, vs, h1, h2⟩ := h
    exact ⟨hn h0, vs, hH _ h1, h2.mono e p⟩
  | dct kvs =>
    obtain ⟨h0, vs, h1, h2⟩ := h
    exact ⟨hn h0, vs, hH _ h1, h2.mono e p⟩
  | ldic od es kvs =>
    obtain ⟨h0, h1, h2⟩ := h
    exact ⟨hn h0, hH _ h1, h2.mono e p⟩
  | ldct od es kvs =>
    obtain ⟨h0, h1, h2⟩ := h
    exact ⟨hn h0, hH _ h1, h2.mono e p⟩
  | ins C fs =>
    obtain ⟨h0, Ca, dx, es, h1, h2, h3, h4, h5, h6⟩ := h
    obtain ⟨q1, q2, q3⟩ := hd dx h3 h4 h5
    exact ⟨hn h0, Ca, dx, es, h1, hH _ h2, q3, q1, q2, h6.mono e p⟩
  | exn C fs =>
    obtain ⟨h0, Ca, d, h1, h2, h3⟩ := h
    exact ⟨hn h0, Ca, d, h1, hH _ h2, h3.mono e⟩
  | gone => trivial
/-- a new thing that never changes -/
theorem Rel.lay {p : Addr} {o : HO} (R : Rel K mg G α O H) (hp : H p = none) : Rel K mg (upd G p o) α O (upd H p o) := by
  have gp : G p = none := R.ex.free hp
  refine ⟨fun a u e => ?_, R.len, R.nd, fun a ha => ?_, fun k a c h1 h2 => ?_, fun q hq => ?_, R.tb.mono (fun b u h _ _ g => by rw [upd_ne (ne_of_none h hp)]; exact g) (fun b u h _ _ => by rw [upd_ne (ne_of_none h hp)]; exact h) (fun _ _ _ _ o => o)⟩
  · by_cases z : a = p
    · subst z
      rw [upd_same] at e ⊢
      exact e
    · rw [upd_ne z] at e ⊢
      exact R.ex a u e
  · obtain ⟨u, e⟩ := R.liv a ha
    exact ⟨u, by rw [upd_ne (ne_of_none e hp)]; exact e⟩
  · obtain ⟨u, e⟩ := R.liv a (List.mem_of_getElem? h1)
    have ne : a ≠ p := ne_of_none e hp
    refine (R.at_ k a c h1 h2).mono (Ex.new gp) (Pre.refl _) (fun z => by rw [upd_ne ne]; exact z) (fun b hb z1 z2 => ?_) fun u z => by rw [upd_ne ne]; exact z
    have nb : b ≠ p := ne_of_none hb hp
    exact ⟨by rw [upd_ne nb]; exact z1, z2, by rw [upd_ne nb]; exact hb⟩
  · obtain ⟨q1, q2, q3, q4⟩ := R.hd q hq
    have nq : q.1 ≠ p := ne_of_none q1 hp
    exact ⟨by rw [upd_ne nq]; exact q1, by rw [upd_ne nq]; exact q2, q3, q4⟩
/-- a new cell -/
theorem Rel.cell {p : Addr} {o : HO} {c : Cell} (R : Rel K mg G α O H) (hp : H p = none) (hno : ∀ b, o ≠ .own b)
    (hc : COk K mg G (α.push p) (upd H p o) p c) : Rel K mg G (α.push p) (O ++ [c]) (upd H p o) := by
  have gp : G p = none := R.ex.free hp
  have np : p ∉ α.as := fun z => by
    obtain ⟨u, e⟩ := R.liv p z
    rw [hp] at e
    cases e
  refine ⟨fun a u e => ?_, ?_, ?_, fun a ha => ?_, fun k a c' h1 h2 => ?_, fun q hq => ?_, R.tb.mono (fun _ _ _ _ _ g => g) (fun b u h _ _ => by rw [upd_ne (ne_of_none h hp)]; exact h) (fun b u h _ o => ⟨fun z => (List.mem_append.mp z).elim o.1 (fun z => ne_of_none h hp (by simpa using z)), o.2⟩)⟩
  · rw [upd_ne (ne_of_none e gp)]
    exact R.ex a u e
  · show (α.as ++ [p]).length = _
    rw [List.length_append, List.length_append, R.len]
    rfl
  · show (α.as ++ [p]).Nodup
    rw [List.nodup_append]
    refine ⟨R.nd, by simp, fun a ha b hb z => ?_⟩
    have : b = p := by simpa using hb
    subst this
    subst z
    exact np ha
  · rcases List.mem_append.mp ha with z | z
    · obtain ⟨u, e⟩ := R.liv a z
      exact ⟨u, by rw [upd_ne (ne_of_none e hp)]; exact e⟩
    · have : a = p := by simpa using z
      subst this
      exact ⟨o, upd_same⟩
  · have h1 : (α.as ++ [p])[k]? = some a := h1
    by_cases hk : k < α.as.length
    · rw [List.getElem?_append_left hk] at h1
      rw [List.getElem?_append_left (by rw [← R.len]; exact hk)] at h2
      obtain ⟨u, e⟩ := R.liv a (List.mem_of_getElem? h1)
      have ne : a ≠ p := ne_of_none e hp
      refine (R.at_ k a c' h1 h2).mono (Ex.refl _) (Pre.push) id (fun b hb z1 z2 => ?_) fun u z => by rw [upd_ne ne]; exact z
      have nb : b ≠ p := ne_of_none hb hp
      refine ⟨z1, fun z => ?_, by rw [upd_ne nb]; exact hb⟩
      rcases List.mem_append.mp z with z | z
      · exact z2 z
      · exact nb (by simpa using z)
    · have hk2 : k = α.as.length := by
        have := (List.getElem?_eq_some_iff.mp h1).1
        rw [List.length_append] at this
        simp at this
        omega
      subst hk2
      rw [List.getElem?_append_right (Nat.le_refl _), Nat.sub_self] at h1
      rw [List.getElem?_append_right (by rw [R.len]; exact Nat.le_refl _), R.len, Nat.sub_self] at h2
      cases h1
      cases h2
      exact hc
  · obtain ⟨q1, q2, q3, q4⟩ := R.hd q hq
    have nq : q.1 ≠ p := ne_of_none q1 hp
    refine ⟨by rw [upd_ne nq]; exact q1, q2, fun z => ?_, q4⟩
    rcases List.mem_append.mp z with z | z
    · exact q3 z
    · exact nq (by simpa using z)
theorem nodup_ne {α : List Addr} (nd : α.Nodup) {i j : Nat} {a b : Addr} (h1 : α[i]? = some a) (h2 : α[j]? = some b) (h : i ≠ j) : a ≠ b := fun e => by
  subst e
  obtain ⟨l1, e1⟩ := List.getElem?_eq_some_iff.mp h1
  obtain ⟨l2, e2⟩ := List.getElem?_eq_some_iff.mp h2
  exact h ((List.getElem_inj nd).mp (e1.trans e2.symm))
/-- a cell is written (not an instance's) -/
theorem Rel.write {k : Nat} {a : Addr} {o u : HO} {c c0 : Cell} (R : Rel K mg G α O H) (h1 : α.as[k]? = some a) (h2 : O[k]? = some c0) (h3 : H a = some u) (h4 : G a = none) (hu : ∀ b, u ≠ .own b) (hno : ∀ b, o ≠ .own b)
    (hc : COk K mg G α (upd H a o) a c) : Rel K mg G α (O.set k c) (upd H a o) := by
  refine ⟨fun b v e => ?_, by rw [List.length_set]; exact R.len, R.nd, fun b hb => ?_, fun j b c' q1 q2 => ?_, fun q hq => ?_, R.tb.mono (fun _ _ _ _ _ g => g) (fun b u h _ o => by rw [upd_ne (o.ne h1)]; exact h) (fun _ _ _ _ o => o)⟩
  · rw [upd_ne (ne_of_none e h4)]
    exact R.ex b v e
  · by_cases z : b = a
    · subst z
      exact ⟨o, upd_same⟩
    · obtain ⟨v, e⟩ := R.liv b hb
      exact ⟨v, by rw [upd_ne z]; exact e⟩
  · by_cases z : k = j
    · subst z
      rw [h1] at q1
      cases q1
      rw [List.getElem?_set_self (List.getElem?_eq_some_iff.mp h2).1] at q2
      cases q2
      exact hc
    · rw [List.getElem?_set_ne z] at q2
      have ne : b ≠ a := nodup_ne R.nd q1 h1 (Ne.symm z)
      refine (R.at_ j b c' q1 q2).mono (Ex.refl _) (Pre.refl _) id (fun x hx z1 z2 => ⟨z1, z2, ?_⟩) fun v z => by rw [upd_ne ne]; exact z
      have nx : x ≠ a := fun e => by
        rw [e, h3] at hx
        exact hu b (Option.some.inj hx)
      rw [upd_ne nx]
      exact hx
  · obtain ⟨q1, q2, q3, q4⟩ := R.hd q hq
    have nq : q.1 ≠ a := fun z => q3 (z ▸ List.mem_of_getElem? h1)
    exact ⟨by rw [upd_ne nq]; exact q1, q2, q3, q4⟩
/-- a list that will never change again -/
theorem Rel.freeze {k : Nat} {a : Addr} {vs : List V} {xs : List W} (R : Rel K mg G α O H) (h1 : α.as[k]? = some a) (h2 : O[k]? = some (.lst xs)) (h3 : H a = some (.lst vs)) (h4 : G a = none) : Rel K mg (upd G a (.lst vs)) α (O.set k .gone) H := by
  refine ⟨fun b v e => ?_, by rw [List.length_set]; exact R.len, R.nd, R.liv, fun j b c' q1 q2 => ?_, fun q hq => ?_, R.tb.mono (fun b u h _ o g => by rw [upd_ne (o.ne h1)]; exact g) (fun _ _ h _ _ => h) (fun _ _ _ _ o => o)⟩
  · by_cases z : b = a
    · subst z
      rw [upd_same] at e
      rw [← e]
      exact h3
    · rw [upd_ne z] at e
      exact R.ex b v e
  · by_cases z : k = j
    · subst z
      rw [List.getElem?_set_self (List.getElem?_eq_some_iff.mp h2).1] at q2
      cases q2
      trivial
    · rw [List.getElem?_set_ne z] at q2
      have ne : b ≠ a := nodup_ne R.nd q1 h1 (Ne.symm z)
      refine (R.at_ j b c' q1 q2).mono (Ex.new h4) (Pre.refl _) (fun z => by rw [upd_ne ne]; exact z) (fun x hx z1 z2 => ⟨?_, z2, hx⟩) fun v z => z
      have nx : x ≠ a := fun e => by
        rw [e, h3] at hx
        cases hx
      rw [upd_ne nx]
      exact z1
  · obtain ⟨q1, q2, q3, q4⟩ := R.hd q hq
    have nq : q.1 ≠ a := fun z => q3 (z ▸ List.mem_of_getElem? h1)
    exact ⟨q1, by rw [upd_ne nq]; exact q2, q3, q4⟩
/-- references of cells -/
def tiLt (n : Nat) : PyData ⊕ Nat → Bool
  | .inl _ => true
  | .inr j => decide (j < n)
def W.lt (n : Nat) : W → Bool
  | .c j => decide (j < n)
  | .t xs => xs.all (tiLt n)
  | _ => true
def Cell.lt (n : Nat) : Cell → Bool
  | .lst xs => xs.all (W.lt n)
  | .dic kvs => kvs.all fun p => p.2.lt n
  | .dct kvs => kvs.all fun p => p.2.lt n
  | .ldic _ _ kvs => kvs.all fun p => p.2.lt n
  | .ldct _ _ kvs => kvs.all fun p => p.2.lt n
  | .ins _ fs => fs.all fun p => p.2.lt n
  | .exn _ _ => true
  | .gone => true
def Clo (n : Nat) (O : Oh) : Bool := O.all (Cell.lt n)
theorem RiL.lt : ∀ {vs : List V} {xs : List (PyData ⊕ Nat)}, Paired (Ri K G α) vs xs → xs.all (tiLt α.as.length) = true
  | _, _, .nil => rfl
  | _, .inl x :: _, .cons h t => by rw [List.all_cons, RiL.lt t]; rfl
  | _, .inr k :: _, .cons h t => by
    obtain ⟨a, h1, _⟩ := h
    rw [List.all_cons, RiL.lt t, Bool.and_true]
    exact decide_eq_true (List.getElem?_eq_some_iff.mp h1).1
theorem Rv.lt {v : V} {w : W} (h : Rv K G α v w) : w.lt α.as.length = true := by
  cases w with
  | c k =>
    obtain ⟨a, h1, _⟩ := h
    exact decide_eq_true (List.getElem?_eq_some_iff.mp h1).1
  | t xs =>
    obtain ⟨a, vs, _, _, h⟩ := h
    exact RiL.lt h
  | _ => rfl
theorem RvL.lt : ∀ {vs : List V} {ws : List W}, RvL K G α vs ws → ws.all (W.lt α.as.length) = true
  | _, _, .nil => rfl
  | _, _, .cons h t => by rw [List.all_cons, h.lt, RvL.lt t]; rfl
theorem RK.lt {κ : Type} : ∀ {vs : List (κ × V)} {ws : List (κ × W)}, RK K G α vs ws → (ws.all fun p => p.2.lt α.as.length) = true
  | _, _, .nil => rfl
  | _, _, .cons h t => by rw [List.all_cons, h.2.lt, RK.lt t]; rfl
theorem Rel.clo (R : Rel K mg G α O H) : Clo O.length O = true := by
  unfold Clo
  rw [List.all_eq_true]
  intro c hc
  obtain ⟨k, hk, e⟩ := List.getElem_of_mem hc
  have hk' : k < α.as.length := by rw [R.len]; exact hk
  have z := R.at_ k α.as[k] c (List.getElem?_eq_getElem hk') (by rw [List.getElem?_eq_getElem hk, e])
  rw [← R.len]
  cases c with
  | lst xs => obtain ⟨_, vs, _, h⟩ := z; exact h.lt
  | dic xs => obtain ⟨_, vs, _, h⟩ := z; exact h.lt
  | dct xs => obtain ⟨_, vs, _, h⟩ := z; exact h.lt
  | ldic od es xs => obtain ⟨_, _, h⟩ := z; exact h.lt
  | ldct od es xs => obtain ⟨_, _, h⟩ := z; exact h.lt
  | ins C xs => obtain ⟨_, _, _, _, _, _, _, _, _, h⟩ := z; exact h.lt
  | exn C fs => rfl
  | gone => rfl
theorem RiL.cut {n : Nat} : ∀ {vs : List V} {xs : List (PyData ⊕ Nat)}, Paired (Ri K G α) vs xs → xs.all (tiLt n) = true → Paired (Ri K G (α.cut n)) vs xs
  | _, _, .nil, _ => .nil
  | _, .inl x :: _, .cons h t, l => by
    rw [List.all_cons, Bool.and_eq_true] at l
    exact .cons (show Ri K G (α.cut n) _ (.inl x) from h) (RiL.cut t l.2)
  | _, .inr k :: _, .cons h t, l => by
    rw [List.all_cons, Bool.and_eq_true] at l
    obtain ⟨a, h1, h2⟩ := h
    refine .cons (show Ri K G (α.cut n) _ (.inr k) from ⟨a, ?_, h2⟩) (RiL.cut t l.2)
    show (α.as.take n)[k]? = some a
    rw [List.getElem?_take, if_pos (of_decide_eq_true l.1)]
    exact h1
theorem Rv.cut {v : V} {w : W} {n : Nat} (h : Rv K G α v w) (l : w.lt n = true) : Rv K G (α.cut n) v w := by
  cases w with
  | d x => exact h
  | k ks => exact h
  | p ds => exact h
  | q ks x => exact h
  | o a d fs => exact h
  | e i ks => exact h
  | t xs =>
    obtain ⟨a, vs, h1, h2, h3⟩ := h
    exact ⟨a, vs, h1, h2, RiL.cut h3 l⟩
  | c k =>
    obtain ⟨a, h1, h2⟩ := h
    refine ⟨a, ?_, h2⟩
    show (α.as.take n)[k]? = some a
    rw [List.getElem?_take, if_pos (of_decide_eq_true l)]
    exact h1
theorem RvL.cut {n : Nat} : ∀ {vs : List V} {ws : List W}, RvL K G α vs ws → ws.all (W.lt n) = true → RvL K G (α.cut n) vs ws
  | _, _, .nil, _ => .nil
  | _, _, .cons h t, l => by
    rw [List.all_cons, Bool.and_eq_true] at l
    exact .cons (h.cut l.1) (RvL.cut t l.2)
theorem RK.cut {κ : Type} {n : Nat} : ∀ {vs : List (κ × V)} {ws : List (κ × W)}, RK K G α vs ws → (ws.all fun p => p.2.lt n) = true → RK K G (α.cut n) vs ws
  | _, _, .nil, _ => .nil
  | _, _, .cons h t, l => by
    rw [List.all_cons, Bool.and_eq_true] at l
    exact .cons ⟨h.1, h.2.cut l.1⟩ (RK.cut t l.2)
/-- the last cells are forgotten -/
theorem Rel.cut {n : Nat} (R : Rel K mg G α O H) (l : Clo n (O.take n) = true) : Rel K mg G (α.cut n) (O.take n) H := by
  refine ⟨R.ex, by show (α.as.take n).length = _; rw [List.length_take, List.length_take, R.len], R.nd.sublist (List.take_sublist _ _), fun a ha => R.liv a (List.mem_of_mem_take ha), fun k a c h1 h2 => ?_, fun q hq => ?_, R.tb.mono (fun _ _ _ _ _ g => g) (fun _ _ h _ _ => h) (fun _ _ _ _ o => ⟨fun z => o.1 (List.mem_of_mem_take z), o.2⟩)⟩
  have hc : c.lt n = true := by
    unfold Clo at l
    rw [List.all_eq_true] at l
    exact l c (List.mem_of_getElem? h2)
  have h1 : (α.as.take n)[k]? = some a := h1
  rw [List.getElem?_take] at h1 h2
  have hk : k < n := by
    by_cases z : k < n
    · exact z
    · rw [if_neg z] at h1
      cases h1
  rw [if_pos hk] at h1 h2
  have z := R.at_ k a c h1 h2
  cases c with
  | lst xs => obtain ⟨h0, vs, q, h⟩ := z; exact ⟨h0, vs, q, h.cut hc⟩
  | dic xs => obtain ⟨h0, vs, q, h⟩ := z; exact ⟨h0, vs, q, h.cut hc⟩
  | dct xs => obtain ⟨h0, vs, q, h⟩ := z; exact ⟨h0, vs, q, h.cut hc⟩
  | ldic od es xs => obtain ⟨h0, q, h⟩ := z; exact ⟨h0, q, h.cut hc⟩
  | ldct od es xs => obtain ⟨h0, q, h⟩ := z; exact ⟨h0, q, h.cut hc⟩
  | ins C xs => obtain ⟨h0, Ca, dx, es, q1, q2, q3, q4, q5, h⟩ := z; exact ⟨h0, Ca, dx, es, q1, q2, q3, q4, fun m => q5 (List.mem_of_mem_take m), h.cut hc⟩
  | exn C fs => obtain ⟨h0, Ca, d, q1, q2, q3⟩ := z; exact ⟨h0, Ca, d, q1, q2, q3⟩
  | gone => trivial
  · obtain ⟨q1, q2, q3, q4⟩ := R.hd q hq
    exact ⟨q1, q2, fun z => q3 (List.mem_of_mem_take z), q4⟩
/-! what is hidden -/
def Al.hide (α : Al) (p : Addr) (o : HO) : Al := ⟨α.as, (p, o) :: α.hid⟩
theorem RvL.hide {p : Addr} {o : HO} {vs : List V} {ws : List W} (h : RvL K G α vs ws) : RvL K G (α.hide p o) vs ws := by
  induction h with
  | nil => exact .nil
  | cons r _ ih => exact .cons (by
      rename_i v w _ _ _
      cases w <;> exact r) ih
theorem RiL.to {β : Al} (hb : β.as = α.as) : ∀ {vs : List V} {xs : List (PyData ⊕ Nat)}, Paired (Ri K G α) vs xs → Paired (Ri K G β) vs xs
  | _, _, .nil => .nil
  | _, .inl x :: _, .cons h t => .cons (show Ri K G β _ (.inl x) from h) (RiL.to hb t)
  | _, .inr k :: _, .cons h t => .cons (show Ri K G β _ (.inr k) from by obtain ⟨a, h1, h2⟩ := h; exact ⟨a, by rw [hb]; exact h1, h2⟩) (RiL.to hb t)
theorem COk.to {a : Addr} {c : Cell} {β : Al} (hb : β.as = α.as) (hH : ∀ o, H a = some o → H' a = some o) (hd : ∀ b, H b = some (.own a) → H' b = some (.own a)) (h : COk K mg G α H a c) : COk K mg G β H' a c := by
  have rv : ∀ {v : V} {w : W}, Rv K G α v w → Rv K G β v w := fun {v w} r => by
    cases w with
    | c k => obtain ⟨a, h1, h2⟩ := r; exact ⟨a, by rw [hb]; exact h1, h2⟩
    | t xs => obtain ⟨a, vs, h1, h2, h3⟩ := r; exact ⟨a, vs, h1, h2, RiL.to hb h3⟩
    | _ => exact r
  have rl : ∀ {vs : List V} {ws : List W}, RvL K G α vs ws → RvL K G β vs ws := fun {vs ws} r => by
    induction r with
    | nil => exact .nil
    | cons r _ ih => exact .cons (rv r) ih
  have rk : ∀ {κ : Type} {vs : List (κ × V)} {ws : List (κ × W)}, RK K G α vs ws → RK K G β vs ws := fun {κ vs ws} r => by
    induction r with
    | nil => exact .nil
    | cons r _ ih => exact .cons ⟨r.1, rv r.2⟩ ih
  cases c with
  | lst xs => obtain ⟨h0, vs, q, h⟩ := h; exact ⟨h0, vs, hH _ q, rl h⟩
  | dic xs => obtain ⟨h0, vs, q, h⟩ := h; exact ⟨h0, vs, hH _ q, rk h⟩
  | dct xs => obtain ⟨h0, vs, q, h⟩ := h; exact ⟨h0, vs, hH _ q, rk h⟩
  | ldic od es xs => obtain ⟨h0, q, h⟩ := h; exact ⟨h0, hH _ q, rk h⟩
  | ldct od es xs => obtain ⟨h0, q, h⟩ := h; exact ⟨h0, hH _ q, rk h⟩
  | ins C xs => obtain ⟨h0, Ca, dx, es, q1, q2, q3, q4, q5, h⟩ := h; exact ⟨h0, Ca, dx, es, q1, hH _ q2, hd _ q3, q4, by rw [hb]; exact q5, rk h⟩
  | exn C fs => obtain ⟨h0, Ca, d, q1, q2, q3⟩ := h; exact ⟨h0, Ca, d, q1, hH _ q2, q3⟩
  | gone => trivial
/-- a new thing, hidden -/
theorem Rel.hidden {p : Addr} {o : HO} (R : Rel K mg G α O H) (hp : H p = none) (hno : NoOT o) : Rel K mg G (α.hide p o) O (upd H p o) := by
  have gp : G p = none := R.ex.free hp
  refine ⟨fun a u e => ?_, R.len, R.nd, fun a ha => ?_, fun k a c h1 h2 => ?_, fun q hq => ?_, R.tb.mono (fun _ _ _ _ _ g => g) (fun b u h _ _ => by rw [upd_ne (ne_of_none h hp)]; exact h) (fun b u h _ o => ⟨o.1, fun q hq => (List.mem_cons.mp hq).elim (fun e => by rw [e]; exact (ne_of_none h hp).symm) (o.2 q)⟩)⟩
  · rw [upd_ne (ne_of_none e gp)]
    exact R.ex a u e
  · obtain ⟨u, e⟩ := R.liv a ha
    exact ⟨u, by rw [upd_ne (ne_of_none e hp)]; exact e⟩
  · obtain ⟨u, e⟩ := R.liv a (List.mem_of_getElem? h1)
    have ne : a ≠ p := ne_of_none e hp
    exact (R.at_ k a c h1 h2).to rfl (fun o z => by rw [upd_ne ne]; exact z) fun b z => by rw [upd_ne (ne_of_none z hp)]; exact z
  · rcases List.mem_cons.mp hq with e | hq
    · subst e
      refine ⟨upd_same, gp, fun z => ?_, hno⟩
      obtain ⟨u, e⟩ := R.liv p z
      rw [hp] at e
      cases e
    · obtain ⟨q1, q2, q3, q4⟩ := R.hd q hq
      have nq : q.1 ≠ p := ne_of_none q1 hp
      exact ⟨by rw [upd_ne nq]; exact q1, q2, q3, q4⟩
/-- the hidden thing is written -/
theorem Rel.rehide {p : Addr} {o o' : HO} {η : List (Addr × HO)} (R : Rel K mg G ⟨α.as, (p, o) :: η⟩ O H) (hno : NoOT o') (hη : ∀ q ∈ η, q.1 ≠ p) : Rel K mg G ⟨α.as, (p, o') :: η⟩ O (upd H p o') := by
  obtain ⟨p1, p2, p3, p4⟩ := R.hd (p, o) List.mem_cons_self
  have p1 : H p = some o := p1
  have p2 : G p = none := p2
  have p3 : p ∉ α.as := p3
  refine ⟨fun a u e => ?_, R.len, R.nd, fun a ha => ?_, fun k a c h1 h2 => ?_, fun q hq => ?_, R.tb.mono (fun _ _ _ _ _ g => g) (fun b u h _ f => by rw [upd_ne (fun z => f.2 _ List.mem_cons_self z.symm)]; exact h) (fun b u h _ f => ⟨f.1, fun q hq => (List.mem_cons.mp hq).elim (fun e => by rw [e]; exact f.2 (p, o) List.mem_cons_self) (fun hq => f.2 q (List.mem_cons_of_mem _ hq))⟩)⟩
  · rw [upd_ne (ne_of_none e p2)]
    exact R.ex a u e
  · obtain ⟨u, e⟩ := R.liv a ha
    have ne : a ≠ p := fun z => p3 (z ▸ ha)
    exact ⟨u, by rw [upd_ne ne]; exact e⟩
  · have ne : a ≠ p := fun z => p3 (z ▸ List.mem_of_getElem? h1)
    refine (R.at_ k a c h1 h2).to rfl (fun o z => by rw [upd_ne ne]; exact z) fun b z => ?_
    have nb : b ≠ p := fun e => by
      rw [e, p1] at z
      exact p4.1 a (Option.some.inj z)
    rw [upd_ne nb]
    exact z
  · rcases List.mem_cons.mp hq with e | hq
    · subst e
      exact ⟨upd_same, p2, p3, hno⟩
    · obtain ⟨q1, q2, q3, q4⟩ := R.hd q (List.mem_cons_of_mem _ hq)
      exact ⟨by rw [upd_ne (hη q hq)]; exact q1, q2, q3, q4⟩
/-- the hidden thing comes to light and never changes again -/
theorem Rel.show {p : Addr} {o : HO} {η : List (Addr × HO)} (R : Rel K mg G ⟨α.as, (p, o) :: η⟩ O H) (hη : ∀ q ∈ η, q.1 ≠ p) : Rel K mg (upd G p o) ⟨α.as, η⟩ O H := by
  obtain ⟨p1, p2, p3, p4⟩ := R.hd (p, o) List.mem_cons_self
  have p1 : H p = some o := p1
  have p2 : G p = none := p2
  have p3 : p ∉ α.as := p3
  refine ⟨fun a u e => ?_, R.len, R.nd, R.liv, fun k a c h1 h2 => ?_, fun q hq => ?_, R.tb.mono (fun b u h _ f g => by rw [upd_ne (fun z => f.2 _ List.mem_cons_self z.symm)]; exact g) (fun _ _ h _ _ => h) (fun b u h _ f => ⟨f.1, fun q hq => f.2 q (List.mem_cons_of_mem _ hq)⟩)⟩
  · by_cases z : a = p
    · subst z
      rw [upd_same] at e
      rw [← e]
      exact p1
    · rw [upd_ne z] at e
      exact R.ex a u e
  · have ne : a ≠ p := fun z => p3 (z ▸ List.mem_of_getElem? h1)
    have z := (R.at_ k a c h1 h2).to (β := ⟨α.as, η⟩) (H' := H) rfl (fun _ z => z) fun _ z => z
    refine z.mono (Ex.new p2) (Pre.refl _) (fun z => by rw [upd_ne ne]; exact z) (fun b hb z1 z2 => ?_) fun _ z => z
    have nb : b ≠ p := fun e => by
      rw [e, p1] at hb
      exact p4.1 a (Option.some.inj hb)
    exact ⟨by rw [upd_ne nb]; exact z1, z2, hb⟩
  · obtain ⟨q1, q2, q3, q4⟩ := R.hd q (List.mem_cons_of_mem _ hq)
    exact ⟨q1, by rw [upd_ne (hη q hq)]; exact q2, q3, q4⟩
end
end Dl
namespace Dl
open PySem PySem.Spec PyProof.Rows L2
variable [TabsC]
theorem pe_imp {X : Cx} {e : Expr} {t t' : TE} (i : ∀ σ H Q, t' σ H Q → t σ H Q) (h : PE X e t) : PE X e t' := ⟨fun pins s σ H Q I q => h.run pins s σ H Q I (i _ _ _ q)⟩
theorem pt_imp {X : Cx} {e : Expr} {t t' : TT} (i : ∀ σ H Q, t' σ H Q → t σ H Q) (h : PT X e t) : PT X e t' := ⟨fun pins s σ H Q I q => h.run pins s σ H Q I (i _ _ _ q)⟩
theorem pw_imp {X : Cx} {e : Expr} {t t' : TT} (i : ∀ σ H Q, t' σ H Q → t σ H Q) (h : PW X e t) : PW X e t' := ⟨fun wh pins s σ H Q I q => h.run wh pins s σ H Q I (i _ _ _ q)⟩
theorem pa_imp {X : Cx} {e : List Expr} {t t' : TA} (i : ∀ σ H Q, t' σ H Q → t σ H Q) (h : PA X e t) : PA X e t' := ⟨fun p pins s σ H Q I q => h.run p pins s σ H Q I (i _ _ _ q)⟩
theorem ps_imp {X : Cx} {st : Stmt} {t t' : TS} (i : ∀ D σ H, t' D σ H → t D σ H) (h : PS X st t) : PS X st t' := ⟨fun pins s σ H D I q => h.run pins s σ H D I (i _ _ _ q)⟩
theorem pss_imp {X : Cx} {st : List Stmt} {t t' : TS} (i : ∀ D σ H, t' D σ H → t D σ H) (h : PSs X st t) : PSs X st t' := ⟨fun pins s σ H D I q => h.run pins s σ H D I (i _ _ _ q)⟩
section
variable (K : Fg) (mg : Str → Option Value)
def Post (G : Hp) (α : Al) (R : DK) (Q : VK) : Prop := ∀ r O', R r O' → ∀ v G' α' H', Ex G G' → Pre α α' → Rel K mg G' α' O' H' → Rv K G' α' v r → Q v H'
def PostT (G : Hp) (α : Al) (R : Bool → Oh → Prop) (Q : Bool → Hp → Prop) : Prop := ∀ b O', R b O' → ∀ G' α' H', Ex G G' → Pre α α' → Rel K mg G' α' O' H' → Q b H'
def PostA (G : Hp) (α : Al) (R : List W → Oh → Prop) (Q : List V → Hp → Prop) : Prop := ∀ r O', R r O' → ∀ v G' α' H', Ex G G' → Pre α α' → Rel K mg G' α' O' H' → RvL K G' α' v r → Q v H'
def PostS (G : Hp) (α : Al) (R : Gm → Oh → Prop) (Q : L2.St → Hp → Prop) : Prop := ∀ Γ' O', R Γ' O' → ∀ σ' G' α' H', Ex G G' → Pre α α' → Rel K mg G' α' O' H' → Sl K G' α' Γ' σ' → Q σ' H'
def ExOk (G : Hp) (ex : Exn) (cls : Value) (d : Option Addr) : Prop :=
  ∃ C, mg ex.cls = some (.ref C) ∧ cls = .ref C ∧ (ex.fs = [] → d = none) ∧ (ex.fs ≠ [] → ∃ dd vs, d = some dd ∧ G dd = some (.xd vs) ∧ Paired (fun (p : Str × V) (q : Str × PyData) => p.1 = q.1 ∧ Rp K G p.2 q.2) vs ex.fs)
def XPost (G : Hp) (α : Al) (xe : DX) (Wx : WX) : Prop := ∀ ex Γ' O', xe ex Γ' O' → ∀ cls d σ' G' α' H', Ex G G' → Pre α α' → Rel K mg G' α' O' H' → Sl K G' α' Γ' σ' → ExOk K mg G' ex cls d → Wx cls d σ' H'
def XPostF (G : Hp) (α : Al) (xe : Exn → Oh → Prop) (E : XK) : Prop := ∀ ex O', xe ex O' → ∀ cls d G' α' H', Ex G G' → Pre α α' → Rel K mg G' α' O' H' → ExOk K mg G' ex cls d → E cls d H'
structure PostD (G : Hp) (α : Al) (DD : DEnds) (D : Ends) : Prop where
  nx : PostS K mg G α DD.nx D.nx
  rt : Post K mg G α DD.rt D.rt
  bk : PostS K mg G α DD.bk D.bk
  ct : PostS K mg G α DD.ct D.ct
def liftE (Wx : WX) (w : DEx) : TE := fun σ H Q => ∃ G α Γ O R xe, Sl K G α Γ σ ∧ Rel K mg G α O H ∧ w Γ O R xe ∧ Post K mg G α R Q ∧ XPost K mg G α xe Wx
def liftT (Wx : WX) (w : DT) : TT := fun σ H Q => ∃ G α Γ O R xe, Sl K G α Γ σ ∧ Rel K mg G α O H ∧ w Γ O R xe ∧ PostT K mg G α R Q ∧ XPost K mg G α xe Wx
def liftA (Wx : WX) (w : DA) : TA := fun σ H Q => ∃ G α Γ O R xe, Sl K G α Γ σ ∧ Rel K mg G α O H ∧ w Γ O R xe ∧ PostA K mg G α R Q ∧ XPost K mg G α xe Wx
def liftS (Wx : WX) (w : DSt) : TS := fun D σ H => ∃ G α Γ O DD xe, Sl K G α Γ σ ∧ Rel K mg G α O H ∧ w DD xe Γ O ∧ PostD K mg G α DD D ∧ XPost K mg G α xe Wx
def liftF (w : DFn) : Sp := fun vs H Q E => ∃ G α ws O R xe, RvL K G α vs ws ∧ Rel K mg G α O H ∧ w ws O R xe ∧ Post K mg G α R Q ∧ XPostF K mg G α xe E
end
section
variable {K : Fg} {mg : Str → Option Value} {G G' : Hp} {α α' : Al}
theorem Post.mono {R : DK} {Q : VK} (e : Ex G G') (p : Pre α α') (h : Post K mg G α R Q) : Post K mg G' α' R Q := fun r O' q v G2 α2 H' e2 p2 => h r O' q v G2 α2 H' (e.trans e2) (p.trans p2)
theorem PostT.mono {R : Bool → Oh → Prop} {Q : Bool → Hp → Prop} (e : Ex G G') (p : Pre α α') (h : PostT K mg G α R Q) : PostT K mg G' α' R Q := fun r O' q G2 α2 H' e2 p2 => h r O' q G2 α2 H' (e.trans e2) (p.trans p2)
theorem PostA.mono {R : List W → Oh → Prop} {Q : List V → Hp → Prop} (e : Ex G G') (p : Pre α α') (h : PostA K mg G α R Q) : PostA K mg G' α' R Q := fun r O' q v G2 α2 H' e2 p2 => h r O' q v G2 α2 H' (e.trans e2) (p.trans p2)
theorem PostS.mono {R : Gm → Oh → Prop} {Q : L2.St → Hp → Prop} (e : Ex G G') (p : Pre α α') (h : PostS K mg G α R Q) : PostS K mg G' α' R Q := fun r O' q v G2 α2 H' e2 p2 => h r O' q v G2 α2 H' (e.trans e2) (p.trans p2)
theorem XPost.mono {xe : DX} {Wx : WX} (e : Ex G G') (p : Pre α α') (h : XPost K mg G α xe Wx) : XPost K mg G' α' xe Wx := fun ex Γ' O' q cls d σ' G2 α2 H' e2 p2 => h ex Γ' O' q cls d σ' G2 α2 H' (e.trans e2) (p.trans p2)
theorem XPostF.mono {xe : Exn → Oh → Prop} {E : XK} (e : Ex G G') (p : Pre α α') (h : XPostF K mg G α xe E) : XPostF K mg G' α' xe E := fun ex O' q cls d G2 α2 H' e2 p2 => h ex O' q cls d G2 α2 H' (e.trans e2) (p.trans p2)
theorem PostD.mono {DD : DEnds} {D : Ends} (e : Ex G G') (p : Pre α α') (h : PostD K mg G α DD D) : PostD K mg G' α' DD D := ⟨h.nx.mono e p, h.rt.mono e p, h.bk.mono e p, h.ct.mono e p⟩
theorem Post.here {R : DK} {Q : VK} {r : W} {O : Oh} {v : V} {H : Hp} (h : Post K mg G α R Q) (q : R r O) (R' : Rel K mg G α O H) (rv : Rv K G α v r) : Q v H := h r O q v G α H (Ex.refl _) (Pre.refl _) R' rv
theorem PostT.here {R : Bool → Oh → Prop} {Q : Bool → Hp → Prop} {b : Bool} {O : Oh} {H : Hp} (h : PostT K mg G α R Q) (q : R b O) (R' : Rel K mg G α O H) : Q b H := h b O q G α H (Ex.refl _) (Pre.refl _) R'
theorem PostS.here {R : Gm → Oh → Prop} {Q : L2.St → Hp → Prop} {Γ : Gm} {O : Oh} {σ : L2.St} {H : Hp} (h : PostS K mg G α R Q) (q : R Γ O) (R' : Rel K mg G α O H) (s : Sl K G α Γ σ) : Q σ H := h Γ O q σ G α H (Ex.refl _) (Pre.refl _) R' s
/-- a new thing that never changes is the answer -/
theorem Post.lay {R : DK} {Q : VK} {x : PyData} {O : Oh} {H : Hp} {p : Addr} {o : HO} (h : Post K mg G α R Q) (q : R (.d x) O) (R' : Rel K mg G α O H) (hp : H p = none) (rv : Rp K (upd G p o) (.ref p) x) : Q (.ref p) (upd H p o) :=
  h _ O q _ _ α _ (Ex.new (R'.ex.free hp)) (Pre.refl _) (R'.lay hp) rv
end
theorem takesN0 {X : Cx} : L2N.Takes X (fun _ _ _ _ => False) := fun _ _ x => by
  obtain ⟨_, _, _, _, _, _, _, _, _, _, _, _, _, _, _, _, z⟩ := x
  exact z.elim
/-- what holds of a place in the text -/
structure Good (X : Cx) (Wx : WX) (k : Nat) : Prop where
  tk : L2N.Takes X Wx
  ps : PassesOwn (model X.prog X.w) X.A X.env X.xe
  rm : Room k X.A
  calm : X.calm = true
  nd : X.N.Nodup
section
variable {X : Cx} {Wx : WX} {k : Nat}
def DE (X : Cx) (Wx : WX) (e : Expr) (w : DEx) : Prop := PE X e (liftE X.K X.mg Wx w)
def DTt (X : Cx) (Wx : WX) (e : Expr) (w : DT) : Prop := PT X e (liftT X.K X.mg Wx w)
def DW (X : Cx) (Wx : WX) (e : Expr) (w : DT) : Prop := PW X e (liftT X.K X.mg Wx w)
def DAs (X : Cx) (Wx : WX) (es : List Expr) (w : DA) : Prop := PA X es (liftA X.K X.mg Wx w)
def DS (X : Cx) (Wx : WX) (st : Stmt) (w : DSt) : Prop := PS X st (liftS X.K X.mg Wx w)
def DSs (X : Cx) (Wx : WX) (st : List Stmt) (w : DSt) : Prop := PSs X st (liftS X.K X.mg Wx w)
/-! #### names, constants -/
def dVar (i : Nat) : DEx := fun Γ O R _ => match Γ[i]? with
  | some (some w) => R w O
  | _ => False
theorem de_var (i : Nat) {x : Str} {pos : Pos} (hN : X.N[i]? = some x := by rfl) (hv : Vis X.env.scope x := by first | exact Or.inl rfl | exact Or.inr (Or.inl rfl) | exact Or.inr (Or.inr rfl)) (hd : (x == ("__debug__" : Str)) = false := by decide)
    (hcd : (x == ("__classdict__" : Str)) = false := by decide) : DE X Wx (.Name x pos) (dVar i) := by
  refine pe_imp (fun σ H Q ⟨G, α, Γ, O, R, xe, sl, rel, h, p, _⟩ => ?_) (pv i hN hv hd hcd)
  unfold dVar at h
  split at h
  · next w e =>
    obtain ⟨v, e', r⟩ := sl.at_ i w e
    exact ⟨v, e', p.here h rel r⟩
  · exact h.elim
def dC (x : PyData) : DEx := fun _ O R _ => R (.d x) O
theorem de_c {e : Expr} {v : V} {x : PyData} (h : PE X e (tC v)) (r : ∀ G, Rp X.K G v x) : DE X Wx e (dC x) :=
  pe_imp (fun σ H Q ⟨G, α, Γ, O, R, xe, sl, rel, h, p, _⟩ => p.here h rel (r G)) h
theorem de_int {i : Int} {j : Nat} {pos : Pos} : DE X Wx (.Constant (.int i) j pos) (dC (.int i)) := de_c pe_int fun _ => .int _
theorem de_str {x : Str} {j : Nat} {pos : Pos} (h : PyData.strOk x = true := by decide +kernel) : DE X Wx (.Constant (.str x) j pos) (dC (.str x)) := de_c pe_str fun _ => .str _ h
theorem de_bl {b : Bool} {j : Nat} {pos : Pos} : DE X Wx (.Constant (.bool b) j pos) (dC (.bool b)) := de_c pe_bl fun _ => .bl _
theorem de_non {j : Nat} {pos : Pos} : DE X Wx (.Constant .none j pos) (dC .none) := de_c pe_non fun _ => .non
/-! #### two expressions, one after the other -/
abbrev D2 := W → W → Oh → DK → Prop
def OpS (K : Fg) (mg : Str → Option Value) (f : D2) (r : R2) : Prop := ∀ G α O H x y u v R Q, Rel K mg G α O H → Rv K G α u x → Rv K G α v y → f x y O R → Post K mg G α R Q → r u v H Q
def dOp (f : D2) (wa wb : DEx) : DEx := fun Γ O R xe => wa Γ O (fun x O1 => wb Γ O1 (fun y O2 => f x y O2 R) xe) xe
theorem lift_op {K : Fg} {mg : Str → Option Value} {f : D2} {r : R2} {wa wb : DEx} (hs : OpS K mg f r) {σ : L2.St} {H : Hp} {Q : VK} (h : liftE K mg Wx (dOp f wa wb) σ H Q) : tOp r (liftE K mg Wx wa) (liftE K mg Wx wb) σ H Q := by
  obtain ⟨G, α, Γ, O, R, xe, sl, rel, h, p, xp⟩ := h
  refine ⟨G, α, Γ, O, _, xe, sl, rel, h, fun x O1 h1 u G1 α1 H1 e1 p1 rel1 r1 => ?_, xp⟩
  refine ⟨G1, α1, Γ, O1, _, xe, sl.mono e1 p1, rel1, h1, fun y O2 h2 v G2 α2 H2 e2 p2 rel2 r2 => ?_, xp.mono e1 p1⟩
  exact hs G2 α2 O2 H2 x y u v R Q rel2 (r1.mono e2 p2) r2 h2 (p.mono (e1.trans e2) (p1.trans p2))
variable {a b c : Expr} {wa wb wc : DEx} {pos p2 : Pos}
theorem de_op {op : Operator} {f : D2} {r : R2} (ho : OpR X (binaryOp op) r) (hs : OpS X.K X.mg f r) (ha : DE X Wx a wa) (hb : DE X Wx b wb) : DE X Wx (.BinOp a op b pos) (dOp f wa wb) := pe_imp (fun _ _ _ h => lift_op hs h) (pe_op ho ha hb)
theorem de_cmp {op : CmpOp} {f : D2} {r : R2} (ho : OpR X (compareOp op) r) (hs : OpS X.K X.mg f r) (ha : DE X Wx a wa) (hb : DE X Wx b wb) (hm : behindInMarks op b = false := by first | exact nomark _ | rfl) : DE X Wx (.Compare a [op] [b] pos) (dOp f wa wb) :=
  pe_imp (fun _ _ _ h => lift_op hs h) (pe_cmpR ho ha hb hm)
def dB (w : DEx) : DT := fun Γ O R xe => w Γ O (fun r O' => match r with
  | .d (.bool b) => R b O'
  | _ => False) xe
theorem lift_B {K : Fg} {mg : Str → Option Value} {w : DEx} {σ : L2.St} {H : Hp} {Q : Bool → Hp → Prop} (h : liftT K mg Wx (dB w) σ H Q) : liftE K mg Wx w σ H (fun x H1 => ∃ b, x = .bl b ∧ Q b H1) := by
  obtain ⟨G, α, Γ, O, R, xe, sl, rel, h, p, xp⟩ := h
  refine ⟨G, α, Γ, O, _, xe, sl, rel, h, fun x O1 h1 u G1 α1 H1 e1 p1 rel1 r1 => ?_, xp⟩
  try dsimp only at h1
  try dsimp only
  split at h1
  · next b =>
    cases r1
    exact ⟨b, rfl, p _ _ h1 _ _ _ e1 p1 rel1⟩
  · exact h1.elim
theorem dt_cmp {op : CmpOp} {f : D2} {r : R2} (ho : OpR X (compareOp op) r) (hs : OpS X.K X.mg f r) (ha : DE X Wx a wa) (hb : DE X Wx b wb) (hm : behindInMarks op b = false := by first | exact nomark _ | rfl) : DTt X Wx (.Compare a [op] [b] pos) (dB (dOp f wa wb)) := by
  refine pt_imp (fun σ H Q h => ?_) (pt_cmpR ho ha hb hm)
  exact lift_op hs (lift_B h)
theorem dt_val (h : DE X Wx a wa) (he : ∀ whole, isTrue a X.env whole = (do let v ← whole; standAt a.pos; holding [v] (truthy v)) := by intro _; rfl) : DTt X Wx a (dB wa) :=
  pt_imp (fun σ H Q h => lift_B h) (pt_val h he)
/-! #### tests -/
variable {tA tB tC' : DT} {rest : List Expr}
def dAnd (t u : DT) : DT := fun Γ O R xe => t Γ O (fun b O1 => if b = true then u Γ O1 R xe else R false O1) xe
def dOr (t u : DT) : DT := fun Γ O R xe => t Γ O (fun b O1 => if b = true then R true O1 else u Γ O1 R xe) xe
def dNot (t : DT) : DT := fun Γ O R xe => t Γ O (fun b O1 => R (!b) O1) xe
theorem dw_and1 (h : DTt X Wx a tA) : DW X Wx (.BoolOp .And [a] pos) tA := pw_and1 h
theorem dw_or1 (h : DTt X Wx a tA) : DW X Wx (.BoolOp .Or [a] pos) tA := pw_or1 h
theorem dw_and (h : DTt X Wx a tA) (hb : DW X Wx (.BoolOp .And (b :: rest) pos) tB) : DW X Wx (.BoolOp .And (a :: b :: rest) pos) (dAnd tA tB) := by
  refine pw_imp (fun σ H Q ⟨G, α, Γ, O, R, xe, sl, rel, h, p, xp⟩ => ?_) (pw_and h hb)
  refine ⟨G, α, Γ, O, _, xe, sl, rel, h, fun x O1 h1 G1 α1 H1 e1 p1 rel1 => ?_, xp⟩
  try dsimp only at h1
  try dsimp only
  split at h1
  · next c =>
    rw [if_pos c]
    exact ⟨G1, α1, Γ, O1, R, xe, sl.mono e1 p1, rel1, h1, p.mono e1 p1, xp.mono e1 p1⟩
  · next c =>
    rw [if_neg c]
    exact p _ _ h1 _ _ _ e1 p1 rel1
theorem dw_or (h : DTt X Wx a tA) (hb : DW X Wx (.BoolOp .Or (b :: rest) pos) tB) : DW X Wx (.BoolOp .Or (a :: b :: rest) pos) (dOr tA tB) := by
  refine pw_imp (fun σ H Q ⟨G, α, Γ, O, R, xe, sl, rel, h, p, xp⟩ => ?_) (pw_or h hb)
  refine ⟨G, α, Γ, O, _, xe, sl, rel, h, fun x O1 h1 G1 α1 H1 e1 p1 rel1 => ?_, xp⟩
  try dsimp only at h1
  try dsimp only
  split at h1
  · next c =>
    rw [if_pos c]
    exact p _ _ h1 _ _ _ e1 p1 rel1
  · next c =>
    rw [if_neg c]
    exact ⟨G1, α1, Γ, O1, R, xe, sl.mono e1 p1, rel1, h1, p.mono e1 p1, xp.mono e1 p1⟩
theorem DW.t (h : DW X Wx a tA) : DTt X Wx a tA := PW.pt h
theorem dt_not (h : DTt X Wx a tA) : DTt X Wx (.UnaryOp .Not a pos) (dNot tA) := by
  refine pt_imp (fun σ H Q ⟨G, α, Γ, O, R, xe, sl, rel, h, p, xp⟩ => ?_) (pt_not h)
  exact ⟨G, α, Γ, O, _, xe, sl, rel, h, fun x O1 h1 G1 α1 H1 e1 p1 rel1 => p _ _ h1 _ _ _ e1 p1 rel1, xp⟩
/-! .. as values -/
def dAndV (wa wb : DEx) : DEx := fun Γ O R xe => wa Γ O (fun r O1 => match r with
  | .d (.bool b) => if b = true then wb Γ O1 R xe else R (.d (.bool false)) O1
  | _ => False) xe
def dOrV (wa wb : DEx) : DEx := fun Γ O R xe => wa Γ O (fun r O1 => match r with
  | .d (.bool b) => if b = true then R (.d (.bool true)) O1 else wb Γ O1 R xe
  | _ => False) xe
def dNotV (wa : DEx) : DEx := fun Γ O R xe => wa Γ O (fun r O1 => match r with
  | .d (.bool b) => R (.d (.bool (!b))) O1
  | _ => False) xe
theorem de_one {op} (h : DE X Wx a wa) : DE X Wx (.BoolOp op [a] pos) wa := pe_one h
theorem de_and (h : DE X Wx a wa) (hb : DE X Wx (.BoolOp .And (b :: rest) pos) wb) : DE X Wx (.BoolOp .And (a :: b :: rest) pos) (dAndV wa wb) := by
  refine pe_imp (fun σ H Q ⟨G, α, Γ, O, R, xe, sl, rel, h, p, xp⟩ => ?_) (pe_and h hb)
  refine ⟨G, α, Γ, O, _, xe, sl, rel, h, fun x O1 h1 u G1 α1 H1 e1 p1 rel1 r1 => ?_, xp⟩
  try dsimp only at h1
  try dsimp only
  split at h1
  · next bb =>
    cases r1
    refine ⟨bb, rfl, ?_⟩
    try dsimp only at h1
    try dsimp only
    split at h1
    · next c =>
      rw [if_pos c]
      exact ⟨G1, α1, Γ, O1, R, xe, sl.mono e1 p1, rel1, h1, p.mono e1 p1, xp.mono e1 p1⟩
    · next c =>
      rw [if_neg c]
      exact p _ _ h1 _ _ _ _ e1 p1 rel1 (.bl _)
  · exact h1.elim
theorem de_not (h : DE X Wx a wa) : DE X Wx (.UnaryOp .Not a pos) (dNotV wa) := by
  refine pe_imp (fun σ H Q ⟨G, α, Γ, O, R, xe, sl, rel, h, p, xp⟩ => ?_) (pe_not h)
  refine ⟨G, α, Γ, O, _, xe, sl, rel, h, fun x O1 h1 u G1 α1 H1 e1 p1 rel1 r1 => ?_, xp⟩
  try dsimp only at h1
  try dsimp only
  split at h1
  · next bb =>
    cases r1
    exact ⟨bb, rfl, p _ _ h1 _ _ _ _ e1 p1 rel1 (.bl _)⟩
  · exact h1.elim
def dIfE (t : DT) (wa wb : DEx) : DEx := fun Γ O R xe => t Γ O (fun b O1 => if b = true then wa Γ O1 R xe else wb Γ O1 R xe) xe
/-! #### arguments, displays -/
variable {es : List Expr} {ws : DA}
def dNil : DA := fun _ O R _ => R [] O
def dCons (wa : DEx) (ws : DA) : DA := fun Γ O R xe => wa Γ O (fun x O1 => ws Γ O1 (fun xs O2 => R (x :: xs) O2) xe) xe
theorem da_nil : DAs X Wx [] dNil := pa_imp (fun σ H Q ⟨G, α, Γ, O, R, xe, sl, rel, h, p, xp⟩ => p _ _ h _ _ _ _ (Ex.refl _) (Pre.refl _) rel .nil) pa_nil
theorem da_cons (ha : DE X Wx a wa) (hr : DAs X Wx es ws) (hs : starEach (a :: es) X.env = (false, eval a X.env) :: starEach es X.env := by rfl) : DAs X Wx (a :: es) (dCons wa ws) := by
  refine pa_imp (fun σ H Q ⟨G, α, Γ, O, R, xe, sl, rel, h, p, xp⟩ => ?_) (pa_cons ha hr hs)
  refine ⟨G, α, Γ, O, _, xe, sl, rel, h, fun x O1 h1 u G1 α1 H1 e1 p1 rel1 r1 => ?_, xp⟩
  refine ⟨G1, α1, Γ, O1, _, xe, sl.mono e1 p1, rel1, h1, fun y O2 h2 v G2 α2 H2 e2 p2 rel2 r2 => ?_, xp.mono e1 p1⟩
  exact p _ _ h2 _ _ _ _ (e1.trans e2) (p1.trans p2) rel2 (.cons (r1.mono e2 p2) r2)
/-- the data of values that never change -/
def datas : List W → Option (List PyData)
  | [] => some []
  | .d x :: r => match datas r with
    | some xs => some (x :: xs)
    | none => none
  | _ :: _ => none
theorem datas_map (ds : List PyData) : datas (ds.map W.d) = some ds := by
  induction ds with
  | nil => rfl
  | cons d ds ih => show (match datas (ds.map W.d) with | some xs => some (d :: xs) | none => none) = _; rw [ih]
theorem datas_eq : ∀ {ws : List W} {ds : List PyData}, datas ws = some ds → ws = ds.map W.d
  | [], ds, h => by cases h; rfl
  | .d x :: r, ds, h => by
    unfold datas at h
    split at h
    · next xs e => cases h; rw [datas_eq e]; rfl
    · cases h
  | .c _ :: _, _, h => by cases h
  | .k _ :: _, _, h => by cases h
  | .p _ :: _, _, h => by cases h
  | .q _ _ :: _, _, h => by cases h
  | .o _ _ _ :: _, _, h => by cases h
  | .t _ :: _, _, h => by cases h
def dTup (w : DA) : DEx := fun Γ O R xe => w Γ O (fun ws O1 => match datas ws with
  | some ds => ds.length ≤ 1000000 ∧ R (.d (.tuple ds)) O1
  | none => False) xe
def dLst (w : DA) : DEx := fun Γ O R xe => w Γ O (fun ws O1 => match datas ws with
  | some ds => ds.length ≤ 1000000 ∧ R (.d (.list ds)) O1
  | none => False) xe
/-- a list that will change -/
def dLstC (w : DA) : DEx := fun Γ O R xe => w Γ O (fun ws O1 => ws.length ≤ 1000000 ∧ R (.c O1.length) (O1 ++ [.lst ws])) xe
theorem szl {n : Nat} (h : n ≤ 1000000) : n ≤ sizeLine := Nat.le_trans h (by decide)
theorem szlt {n : Nat} (h : n < 1000000) : n < sizeLine := Nat.lt_of_lt_of_le h (by decide)
/-- a tuple of written items, known to have no dict of its own -/
def tTupF (t : TA) : TE := fun σ H Q => t σ H fun xs H1 => xs.length ≤ sizeLine ∧ ∀ p ob, H1 p = none → ob.dict = none → Q (.ref p) (upd H1 p (.frz ob (.tup xs)))
theorem pe_tupF {es : List Expr} {t : TA} {x1} (h : PA X es t) : PE X (.Tuple es x1 pos) (tTupF t) := by
  refine ⟨fun pins s σ H Q I hq => ?_⟩
  refine wpAny_Tuple_spliced (thn (h.run pos pins s σ H _ I hq) fun us s1 ⟨xs, H1, I1, r, z, q⟩ => ⟨by rw [← r.length]; exact z, ?_⟩)
  have hf : H1 s1.heap.objs.size = none := I1.hok.fresh (Nat.le_refl _)
  refine ⟨.ref s1.heap.objs.size, upd H1 s1.heap.objs.size (.frz { cls := .type "tuple", data := .seq us.toArray } (.tup xs)), I1.laid (t' := s1.toks) (fun b u e => Heap.get?_push_of_some _ e) (Nat.le_refl _) ?_, rfl, q _ _ hf rfl⟩
  exact ⟨Heap.get?_push_size _ rfl, z, us, r, ⟨_, Heap.get?_push_size _ rfl, rfl, _, rfl⟩⟩
theorem Post.layF {K : Fg} {mg : Str → Option Value} {G : Hp} {α : Al} {R : DK} {Q : VK} {ds : List PyData} {vs : List V} {O : Oh} {H : Hp} {p : Addr} {ob : Obj} (h : Post K mg G α R Q) (q : R (.d (.tuple ds)) O) (R' : Rel K mg G α O H) (hp : H p = none) (hd : ob.dict = none) (rv : RpL K G vs ds) : Q (.ref p) (upd H p (.frz ob (.tup vs))) := by
  have gp := R'.ex.free hp
  exact h.lay q R' hp (.tup (.inl (.inr ⟨ob, upd_same⟩)) (.inl ⟨ob, _, upd_same, hd⟩) (rv.mono (Ex.new gp)))
theorem de_tup {x1} (h : DAs X Wx es ws) : DE X Wx (.Tuple es x1 pos) (dTup ws) := by
  refine pe_imp (fun σ H Q ⟨G, α, Γ, O, R, xe, sl, rel, h, p, xp⟩ => ?_) (pe_tupF h)
  refine ⟨G, α, Γ, O, _, xe, sl, rel, h, fun y O1 h1 vs G1 α1 H1 e1 p1 rel1 r1 => ?_, xp⟩
  try dsimp only at h1
  try dsimp only
  split at h1
  · next ds e =>
    rw [datas_eq e] at r1
    have r2 := r1.toD
    exact ⟨by rw [r2.length]; exact szl h1.1, fun q ob hq hd => (p.mono e1 p1).layF h1.2 rel1 hq hd r2⟩
  · exact h1.elim
theorem de_lst (h : DAs X Wx es ws) : DE X Wx (.List es pos) (dLst ws) := by
  refine pe_imp (fun σ H Q ⟨G, α, Γ, O, R, xe, sl, rel, h, p, xp⟩ => ?_) (pe_lst h)
  refine ⟨G, α, Γ, O, _, xe, sl, rel, h, fun y O1 h1 vs G1 α1 H1 e1 p1 rel1 r1 => ?_, xp⟩
  try dsimp only at h1
  try dsimp only
  split at h1
  · next ds e =>
    rw [datas_eq e] at r1
    have r2 := r1.toD
    refine ⟨by rw [r2.length]; exact szl h1.1, fun q hq => ?_⟩
    have rel2 := rel1.lay (o := .lst vs) hq
    have e2 : Ex G1 (upd G1 q (.lst vs)) := Ex.new (rel1.ex.free hq)
    exact p _ _ h1.2 _ _ _ _ (e1.trans e2) p1 rel2 (.lst upd_same (r2.mono e2))
  · exact h1.elim
theorem pre_len {α : Al} {p : Addr} {O : Oh} (h : α.as.length = O.length) : (α.push p).as[O.length]? = some p := by
  show (α.as ++ [p])[O.length]? = some p
  rw [List.getElem?_append_right (by omega), h, Nat.sub_self]
  rfl
theorem de_lstC (h : DAs X Wx es ws) : DE X Wx (.List es pos) (dLstC ws) := by
  refine pe_imp (fun σ H Q ⟨G, α, Γ, O, R, xe, sl, rel, h, p, xp⟩ => ?_) (pe_lst h)
  refine ⟨G, α, Γ, O, _, xe, sl, rel, h, fun y O1 h1 vs G1 α1 H1 e1 p1 rel1 r1 => ?_, xp⟩
  refine ⟨by rw [r1.len]; exact szl h1.1, fun q hq => ?_⟩
  have rel2 := rel1.cell (o := .lst vs) (c := .lst y) hq (fun b z => by cases z) ⟨rel1.ex.free hq, vs, upd_same, r1.mono (Ex.refl _) (Pre.push)⟩
  exact p _ _ h1.2 _ _ _ _ e1 (p1.trans (Pre.push)) rel2 ⟨q, pre_len rel1.len, rfl⟩
end
end Dl
namespace Dl
open PySem PySem.Spec PyProof.Rows L2
variable [TabsC]
section
variable {X : Cx} {Wx : WX} {k : Nat} {a b c e : Expr} {wa wb wc we : DEx} {pos p2 : Pos} {t u : DSt} {st : Stmt} {rest : List Stmt}
/-! #### statements -/
def dNext : DSt := fun D _ Γ O => D.nx Γ O
def dSeq (t u : DSt) : DSt := fun D xe Γ O => t { D with nx := u D xe } xe Γ O
def dBreak : DSt := fun D _ Γ O => D.bk Γ O
def dCont : DSt := fun D _ Γ O => D.ct Γ O
def dDrop (w : DEx) : DSt := fun D xe Γ O => w Γ O (fun _ O1 => D.nx Γ O1) xe
def dRet (w : DEx) : DSt := fun D xe Γ O => w Γ O D.rt xe
def dRetN : DSt := fun D _ _ O => D.rt (.d .none) O
def dIf (c : DT) (t u : DSt) : DSt := fun D xe Γ O => c Γ O (fun b O1 => if b = true then t D xe Γ O1 else u D xe Γ O1) xe
theorem dss_nil : DSs X Wx [] dNext := pss_imp (fun D σ H ⟨G, α, Γ, O, DD, xe, sl, rel, h, p, xp⟩ => p.nx.here h rel sl) pss_nil
theorem dss_cons (h1 : DS X Wx st t) (h2 : DSs X Wx rest u) : DSs X Wx (st :: rest) (dSeq t u) := by
  refine pss_imp (fun D σ H ⟨G, α, Γ, O, DD, xe, sl, rel, h, p, xp⟩ => ?_) (pss_cons h1 h2)
  refine ⟨G, α, Γ, O, _, xe, sl, rel, h, ⟨fun Γ1 O1 h1 σ1 G1 α1 H1 e1 p1 rel1 sl1 => ?_, p.rt, p.bk, p.ct⟩, xp⟩
  exact ⟨G1, α1, Γ1, O1, DD, xe, sl1, rel1, h1, p.mono e1 p1, xp.mono e1 p1⟩
theorem dss_one (h1 : DS X Wx st t) : DSs X Wx [st] t := pss_one h1
theorem ds_expr (he : DE X Wx e we) (hs : swapsWith e none pos.line X.env = pure false := by rfl) : DS X Wx (.Expr e pos) (dDrop we) := by
  refine ps_imp (fun D σ H ⟨G, α, Γ, O, DD, xe, sl, rel, h, p, xp⟩ => ?_) (ps_expr he hs)
  exact ⟨G, α, Γ, O, _, xe, sl, rel, h, fun x O1 h1 v G1 α1 H1 e1 p1 rel1 r1 => p.nx _ _ h1 _ _ _ _ e1 p1 rel1 (sl.mono e1 p1), xp⟩
theorem ds_ret (he : DE X Wx e we) : DS X Wx (.Return (some e) pos) (dRet we) := by
  refine ps_imp (fun D σ H ⟨G, α, Γ, O, DD, xe, sl, rel, h, p, xp⟩ => ?_) (ps_ret he)
  exact ⟨G, α, Γ, O, _, xe, sl, rel, h, p.rt, xp⟩
theorem ds_if {tc : DT} {sa sb : List Stmt} (hc : DTt X Wx c tc) (ha : DSs X Wx sa t) (hb : DSs X Wx sb u) : DS X Wx (.If c sa sb pos) (dIf tc t u) := by
  refine ps_imp (fun D σ H ⟨G, α, Γ, O, DD, xe, sl, rel, h, p, xp⟩ => ?_) (ps_if hc ha hb)
  refine ⟨G, α, Γ, O, _, xe, sl, rel, h, fun x O1 h1 G1 α1 H1 e1 p1 rel1 => ?_, xp⟩
  dsimp only at h1 ⊢
  split at h1
  · next c =>
    rw [if_pos c]
    exact ⟨G1, α1, Γ, O1, DD, xe, sl.mono e1 p1, rel1, h1, p.mono e1 p1, xp.mono e1 p1⟩
  · next c =>
    rw [if_neg c]
    exact ⟨G1, α1, Γ, O1, DD, xe, sl.mono e1 p1, rel1, h1, p.mono e1 p1, xp.mono e1 p1⟩
/-! #### targets: names and tuples of such -/
inductive Tg where
  | nm (i : Nat)
  | tup (ts : List Tg)
mutual
def Tg.g (K : Fg) : Tg → TG
  | .nm i => gName i
  | .tup ts => gTup K (Tg.len ts) (Tg.gs K ts)
def Tg.gs (K : Fg) : List Tg → TGs
  | [] => gNil
  | t :: ts => gCons (Tg.g K t) (Tg.gs K ts)
def Tg.len : List Tg → Nat
  | [] => 0
  | _ :: ts => Tg.len ts + 1
end
mutual
/-- what a store makes of the slots -/
def Tg.put : Tg → W → Gm → (Gm → Prop) → Prop
  | .nm i, w, Γ, R => R (Γ.set i (some w))
  | .tup ts, w, Γ, R => match w with
    | .d (.tuple ds) => Tg.puts ts (ds.map W.d) Γ R
    | .p ds => Tg.puts ts (ds.map W.d) Γ R
    | .k ks => Tg.puts ts (ks.map fun x => W.d (keyD x)) Γ R
    | .q ks x => Tg.puts ts [.k ks, .d x] Γ R
    | .t xs => Tg.puts ts (xs.map tiW) Γ R
    | .e i ks => Tg.puts ts [.d (.int i), .k ks] Γ R
    | _ => False
def Tg.puts : List Tg → List W → Gm → (Gm → Prop) → Prop
  | [], ds, Γ, R => match ds with
    | [] => R Γ
    | _ :: _ => False
  | t :: ts, ds, Γ, R => match ds with
    | [] => False
    | d :: r => Tg.put t d Γ fun Γ1 => Tg.puts ts r Γ1 R
end
mutual
/-- the slots it stores to lie among these -/
def Tg.sub (own : List Nat) : Tg → Bool
  | .nm i => decide (i ∈ own)
  | .tup ts => Tg.subs own ts
def Tg.subs (own : List Nat) : List Tg → Bool
  | [] => true
  | t :: ts => t.sub own && Tg.subs own ts
end
theorem wipe_set {i : Nat} {v : Option V} : ∀ {own : List Nat} {σ : L2.St}, i ∈ own → wipe (σ.set i v) own = wipe σ own
  | j :: r, σ, h => by
    show (wipe (σ.set i v) r).set j none = (wipe σ r).set j none
    by_cases z : i ∈ r
    · rw [wipe_set z]
    · have e : j = i := by
        rcases List.mem_cons.mp h with h | h
        · exact h.symm
        · exact absurd h z
      subst e
      have com : ∀ {q : List Nat}, j ∉ q → wipe (σ.set j v) q = (wipe σ q).set j v := by
        intro q
        induction q with
        | nil => intro _; rfl
        | cons m q ih =>
          intro hm
          have h1 : j ≠ m := fun e => hm (e ▸ List.mem_cons_self)
          have h2 : j ∉ q := fun e => hm (List.mem_cons_of_mem _ e)
          show (wipe (σ.set j v) q).set m none = ((wipe σ q).set m none).set j v
          rw [ih h2, List.set_comm _ _ h1]
      rw [com z, List.set_set]
section
variable {K : Fg} {mg : Str → Option Value} {G : Hp} {α : Al} {H : Hp}
mutual
theorem Tg.put_ok : ∀ (t : Tg) {w : W} {v : V} {Γ : Gm} {σ : L2.St} {R : Gm → Prop} {O : Oh} {Q : L2.St → Hp → Prop}, Rel K mg G α O H → Sl K G α Γ σ → Rv K G α v w → t.put w Γ R →
    (∀ Γ' σ', R Γ' → Sl K G α Γ' σ' → (∀ own, t.sub own = true → wipe σ' own = wipe σ own) → Q σ' H) → t.g K v σ H Q
  | .nm i, w, v, Γ, σ, R, O, Q, rel, sl, rv, h, q => by
    refine q _ _ h (sl.set rv i) fun own ho => wipe_set (of_decide_eq_true ho)
  | .tup ts, w, v, Γ, σ, R, O, Q, rel, sl, rv, h, q => by
    match w, h with
    | .d (.tuple ds), h =>
      cases rv with
      | tup hs td ha =>
        rename_i a xs
        have r := RvL.ofD (α := α) ha
        exact ⟨a, xs, rfl, rel.ex.sqT hs, by rw [r.len]; exact Tg.puts_len ts h, Tg.puts_ok ts rel sl r h q⟩
    | .p ds, h =>
      obtain ⟨a, xs, rfl, hs, ha⟩ := rv
      have r := RvL.ofD (α := α) ha
      exact ⟨a, xs, rfl, rel.ex.sqT hs, by rw [r.len]; exact Tg.puts_len ts h, Tg.puts_ok ts rel sl r h q⟩
    | .k ks, h =>
      obtain ⟨ok, a, rfl, hs⟩ := rv
      have r : RvL K G α (ks.map kV) (ks.map fun x => W.d (keyD x)) := by
        have z := RvL.ofD (α := α) (RpL.keys (K := K) (G := G) ok)
        rwa [List.map_map] at z
      exact ⟨a, _, rfl, rel.ex.sqT (SqT.of hs), by rw [r.len]; exact Tg.puts_len ts h, Tg.puts_ok ts rel sl r h q⟩
    | .q ks x, h =>
      obtain ⟨ok, a, b, u, rfl, hs, hb, hu⟩ := rv
      have r : RvL K G α [.ref b, u] [.k ks, .d x] := .cons ⟨ok, b, rfl, hb⟩ (.cons hu .nil)
      exact ⟨a, _, rfl, rel.ex.sqT hs, by rw [r.len]; exact Tg.puts_len ts h, Tg.puts_ok ts rel sl r h q⟩
    | .t xs, h =>
      obtain ⟨a, vs, rfl, hs, hr⟩ := rv
      have r := RiL.rv hr
      exact ⟨a, _, rfl, rel.ex.sqT (SqT.of hs), by rw [r.len]; exact Tg.puts_len ts h, Tg.puts_ok ts rel sl r h q⟩
    | .e i ks, h =>
      obtain ⟨ok, a, b, rfl, hs, hb⟩ := rv
      have r : RvL K G α [.int i, .ref b] [.d (.int i), .k ks] := .cons (show Rp K G (.int i) (.int i) from .int i) (.cons ⟨ok, b, rfl, hb⟩ .nil)
      exact ⟨a, _, rfl, rel.ex.sqT hs, by rw [r.len]; exact Tg.puts_len ts h, Tg.puts_ok ts rel sl r h q⟩
theorem Tg.puts_ok : ∀ (ts : List Tg) {ds : List W} {vs : List V} {Γ : Gm} {σ : L2.St} {R : Gm → Prop} {O : Oh} {Q : L2.St → Hp → Prop}, Rel K mg G α O H → Sl K G α Γ σ → RvL K G α vs ds → Tg.puts ts ds Γ R →
    (∀ Γ' σ', R Γ' → Sl K G α Γ' σ' → (∀ own, Tg.subs own ts = true → wipe σ' own = wipe σ own) → Q σ' H) → Tg.gs K ts vs σ H Q
  | [], ds, vs, Γ, σ, R, O, Q, rel, sl, rv, h, q => by
    match ds, h with
    | [], h =>
      cases rv
      exact ⟨rfl, q _ _ h sl fun _ _ => rfl⟩
  | t :: ts, ds, vs, Γ, σ, R, O, Q, rel, sl, rv, h, q => by
    match ds, h with
    | d :: r, h =>
      cases rv with
      | cons r1 r2 =>
        rename_i v vr
        refine ⟨v, vr, rfl, Tg.put_ok t rel sl (w := d) r1 h fun Γ1 σ1 h1 sl1 w1 => ?_⟩
        refine Tg.puts_ok ts rel sl1 r2 h1 fun Γ2 σ2 h2 sl2 w2 => ?_
        refine q Γ2 σ2 h2 sl2 fun own ho => ?_
        have ho' : t.sub own = true ∧ Tg.subs own ts = true := by
          have z : (t.sub own && Tg.subs own ts) = true := ho
          rwa [Bool.and_eq_true] at z
        rw [w2 own ho'.2, w1 own ho'.1]
theorem Tg.puts_len : ∀ (ts : List Tg) {ds : List W} {Γ : Gm} {R : Gm → Prop}, Tg.puts ts ds Γ R → ds.length = Tg.len ts
  | [], ds, Γ, R, h => by
    match ds, h with
    | [], h => rfl
  | t :: ts, ds, Γ, R, h => by
    match ds, h with
    | d :: r, h =>
      show r.length + 1 = Tg.len ts + 1
      obtain ⟨Γ1, h1⟩ := Tg.put_some t h
      rw [Tg.puts_len ts h1]
theorem Tg.put_some : ∀ (t : Tg) {w : W} {Γ : Gm} {R : Gm → Prop}, t.put w Γ R → ∃ Γ', R Γ'
  | .nm i, w, Γ, R, h => ⟨_, h⟩
  | .tup ts, w, Γ, R, h => by
    match w, h with
    | .d (.tuple ds), h => exact Tg.puts_some ts h
    | .p ds, h => exact Tg.puts_some ts h
    | .k ks, h => exact Tg.puts_some ts h
    | .q ks x, h => exact Tg.puts_some ts h
    | .t xs, h => exact Tg.puts_some ts h
    | .e i ks, h => exact Tg.puts_some ts h
theorem Tg.puts_some : ∀ (ts : List Tg) {ds : List W} {Γ : Gm} {R : Gm → Prop}, Tg.puts ts ds Γ R → ∃ Γ', R Γ'
  | [], ds, Γ, R, h => by
    match ds, h with
    | [], h => exact ⟨_, h⟩
  | t :: ts, ds, Γ, R, h => by
    match ds, h with
    | d :: r, h =>
      obtain ⟨Γ1, h1⟩ := Tg.put_some t h
      exact Tg.puts_some ts h1
end
end
/-- name = e, (a, b) = e -/
def dAsg (w : DEx) (t : Tg) : DSt := fun D xe Γ O => w Γ O (fun x O1 => t.put x Γ fun Γ' => D.nx Γ' O1) xe
theorem lift_asg {K : Fg} {mg : Str → Option Value} {w : DEx} {t : Tg} {D : Ends} {σ : L2.St} {H : Hp} (h : liftS K mg Wx (dAsg w t) D σ H) : tAsg (liftE K mg Wx w) (t.g K) D σ H := by
  obtain ⟨G, α, Γ, O, DD, xe, sl, rel, h, p, xp⟩ := h
  refine ⟨G, α, Γ, O, _, xe, sl, rel, h, fun x O1 h1 v G1 α1 H1 e1 p1 rel1 r1 => ?_, xp⟩
  exact Tg.put_ok t rel1 (sl.mono e1 p1) r1 h1 fun Γ' σ' q sl' _ => p.nx _ _ q _ _ _ _ e1 p1 rel1 sl'
theorem ds_set (g : Good X Wx k) {i : Nat} {x : Str} {pos' : Pos} (hi : X.N[i]? = some x) (hx : Loc X.env.scope x) (he : DE X Wx e we) (hs : swapsWith e (some (.Name x pos')) pos.line X.env = pure false := by rfl) (hf : X.fn x = true ∨ X.env.scope.names.lookup x = some .local := by first | exact .inl rfl | exact .inr rfl | assumption) :
    DS X Wx (.Assign [.Name x pos'] e pos) (dAsg we (.nm i)) := ps_imp (fun D σ H h => lift_asg h) (ps_set g.nd hi hx he hs hf)
theorem ds_asg {tg : Expr} (t : Tg) (he : DE X Wx e we) (hg : PG X tg (t.g X.K)) (hs : swapsWithSole [tg] e pos.line X.env = pure false := by rfl) (hw : swappedStores [tg] e X.env = pure none := by rfl)
    (h1 : (assignEach [tg] X.env).map (·.2) = [assign tg X.env] := by rfl) : DS X Wx (.Assign [tg] e pos) (dAsg we t) := ps_imp (fun D σ H h => lift_asg h) (ps_asg he hg hs hw h1)
/-- a, b = e1, e2 -/
def dPar (i j : Nat) (ws : DA) : DSt := fun D xe Γ O => ws Γ O (fun vs O1 => match vs with
  | [v, w] => D.nx ((Γ.set i (some v)).set j (some w)) O1
  | _ => False) xe
/-- name op= e -/
def dAug (i : Nat) (w : DEx) (f : D2) : DSt := fun D xe Γ O => match Γ[i]? with
  | some (some x) => w Γ O (fun y O1 => f x y O1 fun z O2 => D.nx (Γ.set i (some z)) O2) xe
  | _ => False
/-! #### what is walked -/
theorem pre_get' {α α' : Al} {k : Nat} {a : Addr} (h : α.as <+: α'.as) (e : α.as[k]? = some a) : α'.as[k]? = some a := by
  obtain ⟨t, ht⟩ := h
  rw [← ht, List.getElem?_append_left (List.getElem?_eq_some_iff.mp e).1]
  exact e
theorem Rv.mono' {K : Fg} {G G' : Hp} {α α' : Al} {v : V} {w : W} (e : Ex G G') (p : α.as <+: α'.as) (h : Rv K G α v w) : Rv K G' α' v w := by
  have h' : Rv K G ⟨α.as, α'.hid⟩ v w := by cases w <;> exact h
  have pp : Pre ⟨α.as, α'.hid⟩ α' := ⟨p, rfl⟩
  exact h'.mono e pp
theorem Sl.mono' {K : Fg} {G G' : Hp} {α α' : Al} {Γ : Gm} {σ : L2.St} (e : Ex G G') (p : α.as <+: α'.as) (h : Sl K G α Γ σ) : Sl K G' α' Γ σ := ⟨h.len, fun i w q => by
  obtain ⟨v, h1, h2⟩ := h.at_ i w q
  exact ⟨v, h1, h2.mono' e p⟩⟩
abbrev DI := Gm → Oh → (List W → (Oh → Prop) → Oh → Prop) → DX → Prop
/-- the walk of J yields just these, while ok holds -/
def Sim (K : Fg) (mg : Str → Option Value) (J : It) (G0 : Hp) (α0 : Al) (xs : List W) (ok : Oh → Prop) : Prop := ∀ (i : Nat) (G : Hp) (α : Al) (O : Oh) (H : Hp), Ex G0 G → α0.as <+: α.as → Rel K mg G α O H → ok O →
  (xs.length ≤ i → J.stop i H) ∧ ∀ w, xs[i]? = some w → J.go i H ∧ ∀ x H', J.yld i H x H' → ∃ G', Ex G G' ∧ Rel K mg G' α O H' ∧ Rv K G' α x w
def liftI (K : Fg) (mg : Str → Option Value) (Wx : WX) (w : DI) : TI := fun σ H R => ∃ G α Γ O S xe, Sl K G α Γ σ ∧ Rel K mg G α O H ∧ w Γ O S xe ∧ XPost K mg G α xe Wx ∧
  ∀ xs ok O', S xs ok O' → ∀ J G' α' H', Ex G G' → Pre α α' → Rel K mg G' α' O' H' → Sim K mg J G' α' xs ok → R J H'
def DIt (X : Cx) (Wx : WX) (tg it : Expr) (w : DI) : Prop := PI X tg it (liftI X.K X.mg Wx w)
theorem pi_imp {X : Cx} {tg it : Expr} {t t' : TI} (i : ∀ σ H R, t' σ H R → t σ H R) (h : PI X tg it t) : PI X tg it t' := ⟨fun pins s σ H R I q => h.run pins s σ H R I (i _ _ _ q)⟩
/-- a list or a tuple -/
def dSeqI (w : DEx) : DI := fun Γ O S xe => w Γ O (fun r O1 => match r with
  | .d (.list ds) => S (ds.map W.d) (fun _ => True) O1
  | .d (.tuple ds) => S (ds.map W.d) (fun _ => True) O1
  | .c k => match O1[k]? with
    | some (.lst ws) => S ws (fun O => O[k]? = some (.lst ws)) O1
    | _ => False
  | _ => False) xe
def iSeq (K : Fg) (tl : TE) : TI := fun σ H R => tl σ H fun x H1 => (∃ a, x = .ref a ∧ (∃ xs, SqL K H1 a xs) ∧ R (Itl K a) H1) ∨ (∃ a, x = .ref a ∧ (∃ xs, SqT K H1 a xs) ∧ R (Itt K a) H1)
theorem pi_seq {tg l : Expr} {tl : TE} (hl : PE X l tl) : PI X tg l (iSeq X.K tl) := by
  refine ⟨fun pins s σ H R I h => ?_⟩
  refine thn (hl.run pins s σ H _ I h) fun v s1 ⟨x, H1, I1, r1, q1⟩ => ?_
  rcases q1 with ⟨a, e, ⟨xs, hq⟩, q⟩ | ⟨a, e, ⟨xs, hq⟩, q⟩
  · subst e
    cases r1
    obtain ⟨its, rv, p, hz⟩ := I1.list hq
    refine wpAny_pyIter_list p.isList ?_
    refine ⟨s1.heap.objs.size, [s1.heap.objs.size], _, _, H1, rfl, I1.kept (t' := s1.toks) fun b o e => Heap.get?_push_of_some _ e, turn_list a _, ⟨_, Heap.get?_push_size _ rfl, rfl, rfl⟩, fun b hb => ?_, q⟩
    have e : b = s1.heap.objs.size := by simpa using hb
    subst e
    exact I1.fpOk (Nat.le_refl _) (I1.hok.fresh (Nat.le_refl _))
  · subst e
    cases r1
    obtain ⟨its, rv, p, hz⟩ := I1.tuple hq
    refine wpAny_pyIter_tuple (show s1.heap.IsTuple a its.toArray from p) ?_
    refine ⟨s1.heap.objs.size, [s1.heap.objs.size], _, _, H1, rfl, I1.kept (t' := s1.toks) fun b o e => Heap.get?_push_of_some _ e, turn_tuple a _, ⟨_, Heap.get?_push_size _ rfl, rfl, rfl⟩, fun b hb => ?_, q⟩
    have e : b = s1.heap.objs.size := by simpa using hb
    subst e
    exact I1.fpOk (Nat.le_refl _) (I1.hok.fresh (Nat.le_refl _))
theorem sim_list {K : Fg} {mg : Str → Option Value} {G0 : Hp} {α0 : Al} {a : Addr} {vs : List V} {ds : List PyData} (h : SqL K G0 a vs) (r : RpL K G0 vs ds) : Sim K mg (Itl K a) G0 α0 (ds.map W.d) fun _ => True := by
  intro i G α O H e p rel _
  have h' : SqL K H a vs := rel.ex.sqL (e.sqL h)
  refine ⟨fun hi => ⟨vs, h', by rw [r.length]; rw [List.length_map] at hi; exact hi⟩, fun w hw => ?_⟩
  rw [List.getElem?_map] at hw
  cases hd : ds[i]? with
  | none => rw [hd] at hw; cases hw
  | some d =>
    rw [hd] at hw
    cases hw
    obtain ⟨v, hv, rv⟩ := r.get hd
    refine ⟨⟨vs, v, h', hv⟩, fun x H' ⟨eH, y⟩ => ?_⟩
    subst eH
    have := y vs h'
    rw [hv] at this
    cases this
    exact ⟨G, Ex.refl _, rel, rv.mono e⟩
theorem sim_tup {K : Fg} {mg : Str → Option Value} {G0 : Hp} {α0 : Al} {a : Addr} {vs : List V} {ds : List PyData} (h : SqT K G0 a vs) (r : RpL K G0 vs ds) : Sim K mg (Itt K a) G0 α0 (ds.map W.d) fun _ => True := by
  intro i G α O H e p rel _
  have h' : SqT K H a vs := rel.ex.sqT (e.sqT h)
  refine ⟨fun hi => ⟨vs, h', by rw [r.length]; rw [List.length_map] at hi; exact hi⟩, fun w hw => ?_⟩
  rw [List.getElem?_map] at hw
  cases hd : ds[i]? with
  | none => rw [hd] at hw; cases hw
  | some d =>
    rw [hd] at hw
    cases hw
    obtain ⟨v, hv, rv⟩ := r.get hd
    refine ⟨⟨vs, v, h', hv⟩, fun x H' ⟨eH, y⟩ => ?_⟩
    subst eH
    have := y vs h'
    rw [hv] at this
    cases this
    exact ⟨G, Ex.refl _, rel, rv.mono e⟩
theorem sim_cell {K : Fg} {mg : Str → Option Value} {G0 : Hp} {α0 : Al} {a : Addr} {k : Nat} {ws : List W} (ha : α0.as[k]? = some a) : Sim K mg (Itl K a) G0 α0 ws fun O => O[k]? = some (.lst ws) := by
  intro i G α O H e p rel ok
  obtain ⟨_, vs, hH, r⟩ := rel.at_ k a _ (pre_get' p ha) ok
  have h' : SqL K H a vs := SqL.of hH
  refine ⟨fun hi => ⟨vs, h', by rw [r.len]; exact hi⟩, fun w hw => ?_⟩
  obtain ⟨v, hv, rv⟩ := r.get hw
  refine ⟨⟨vs, v, h', hv⟩, fun x H' ⟨eH, y⟩ => ?_⟩
  subst eH
  have := y vs h'
  rw [hv] at this
  cases this
  exact ⟨G, Ex.refl _, rel, rv⟩
theorem di_seq {tg l : Expr} (hl : DE X Wx l wa) : DIt X Wx tg l (dSeqI wa) := by
  refine pi_imp (fun σ H R ⟨G, α, Γ, O, S, xe, sl, rel, h, xp, q⟩ => ?_) (pi_seq hl)
  refine ⟨G, α, Γ, O, _, xe, sl, rel, h, fun x O1 h1 v G1 α1 H1 e1 p1 rel1 r1 => ?_, xp⟩
  dsimp only at h1
  split at h1
  · next ds =>
    cases r1 with
    | lst hs ha => exact .inl ⟨_, rfl, ⟨_, SqL.of (rel1.ex _ _ hs)⟩, q _ _ _ h1 _ _ _ _ e1 p1 rel1 (sim_list (SqL.of hs) ha)⟩
  · next ds =>
    cases r1 with
    | tup hs td ha => exact .inr ⟨_, rfl, ⟨_, rel1.ex.sqT hs⟩, q _ _ _ h1 _ _ _ _ e1 p1 rel1 (sim_tup hs ha)⟩
  · next k =>
    split at h1
    · next ws ek =>
      obtain ⟨a, ha, rfl⟩ := r1
      obtain ⟨_, vs, hH, r⟩ := rel1.at_ k a _ ha ek
      exact .inl ⟨_, rfl, ⟨_, SqL.of hH⟩, q _ _ _ h1 _ _ _ _ e1 p1 rel1 (sim_cell ha)⟩
    · exact h1.elim
  · exact h1.elim
/-- lo, lo + 1, .. -/
def rgW (lo : Int) : Nat → List W
  | 0 => []
  | n + 1 => .d (.int lo) :: rgW (lo + 1) n
theorem rgW_len : ∀ (lo : Int) (n : Nat), (rgW lo n).length = n
  | _, 0 => rfl
  | lo, n + 1 => by show (rgW (lo + 1) n).length + 1 = n + 1; rw [rgW_len]
theorem rgW_get : ∀ (lo : Int) (n i : Nat), i < n → (rgW lo n)[i]? = some (.d (.int (lo + (i : Nat))))
  | lo, 0, i, h => by omega
  | lo, n + 1, 0, h => by show some _ = _; simp
  | lo, n + 1, i + 1, h => by
    show (rgW (lo + 1) n)[i]? = _
    rw [rgW_get (lo + 1) n i (by omega)]
    congr 3
    omega
theorem sim_rng {K : Fg} {mg : Str → Option Value} {G0 : Hp} {α0 : Al} {lo : Int} {n : Nat} : Sim K mg (Itr lo n) G0 α0 (rgW lo n) fun _ => True := by
  intro i G α O H e p rel _
  refine ⟨fun hi => by rw [rgW_len] at hi; exact hi, fun w hw => ?_⟩
  have hi : i < n := by
    have := (List.getElem?_eq_some_iff.mp hw).1
    rwa [rgW_len] at this
  rw [rgW_get lo n i hi] at hw
  cases hw
  refine ⟨hi, fun x H' ⟨eH, y⟩ => ?_⟩
  subst eH
  subst y
  exact ⟨G, Ex.refl _, rel, .int _⟩
def dRng1 (w : DA) : DI := fun Γ O S xe => w Γ O (fun vs O1 => match vs with
  | [.d (.int j)] => j < 4611686018427387904 ∧ -4611686018427387904 ≤ j ∧ S (rgW 0 j.toNat) (fun _ => True) O1
  | _ => False) xe
def dRng2 (w : DA) : DI := fun Γ O S xe => w Γ O (fun vs O1 => match vs with
  | [.d (.int i), .d (.int j)] => (i < 4611686018427387904 ∧ -4611686018427387904 ≤ i ∧ j < 4611686018427387904 ∧ -4611686018427387904 ≤ j) ∧ S (rgW i (j - i).toNat) (fun _ => True) O1
  | _ => False) xe
theorem di_rng1 {tg : Expr} {ws : DA} {p pos : Pos} (hm : X.mg "range" = none) (ha : DAs X Wx [a] ws) (hg : Gl X "range" := by rfl) (hs : starEach [a] X.env = [(false, eval a X.env)] := by rfl) : DIt X Wx tg (.Call (.Name "range" p) [a] [] pos) (dRng1 ws) := by
  refine pi_imp (fun σ H R ⟨G, α, Γ, O, S, xe, sl, rel, h, xp, q⟩ => ?_) (pi_range1 hg hm ha hs)
  refine ⟨G, α, Γ, O, _, xe, sl, rel, h, fun x O1 h1 v G1 α1 H1 e1 p1 rel1 r1 => ?_, xp⟩
  dsimp only at h1
  split at h1
  · next j =>
    cases r1 with
    | cons ra rn =>
      cases rn
      cases ra
      exact ⟨j, rfl, h1.2.1, h1.1, q _ _ _ h1.2.2 _ _ _ _ e1 p1 rel1 sim_rng⟩
  · exact h1.elim
/-! #### for -/
def forGo (ok : Oh → Prop) (t : Tg) (body : DSt) (D : DEnds) (xe : DX) : List W → Gm → Oh → Prop
  | [], Γ, O => ok O ∧ D.nx Γ O
  | x :: r, Γ, O => ok O ∧ t.put x Γ fun Γ1 => body ⟨forGo ok t body D xe r, D.rt, D.nx, forGo ok t body D xe r⟩ xe Γ1 O
def dFor (w : DI) (t : Tg) (body : DSt) : DSt := fun D xe Γ O => w Γ O (fun xs ok O1 => forGo ok t body D xe xs Γ O1) xe
theorem ds_for (g : Good X Wx k) {tg it : Expr} {wi : DI} {body : List Stmt} {tb : DSt} (t : Tg) (hi : DIt X Wx tg it wi) (hg : PG X tg (t.g X.K)) (hb : DSs X Wx body tb) (hs : ∀ x, foldedSetIterable it X.env x = pure x := by intro _; rfl) :
    DS X Wx (.For tg it body [] pos) (dFor wi t tb) := by
  refine ps_imp (fun D σ H ⟨G, α, Γ, O, DD, xe, sl, rel, h, p, xp⟩ => ?_) (ps_for g.ps g.calm hi hg hb hs)
  refine ⟨G, α, Γ, O, _, xe, sl, rel, h, xp, fun xs ok O1 h1 J G1 α1 H1 e1 p1 rel1 sim => ?_⟩
  refine ⟨fun i m σ H => m = xs.length - i ∧ i ≤ xs.length ∧ ∃ G2 α2 Γ2 O2, Ex G1 G2 ∧ Pre α1 α2 ∧ Sl X.K G2 α2 Γ2 σ ∧ Rel X.K X.mg G2 α2 O2 H ∧ forGo ok t tb DD xe (xs.drop i) Γ2 O2,
    ⟨xs.length, by simp, Nat.zero_le _, G1, α1, Γ, O1, Ex.refl _, Pre.refl _, sl.mono e1 p1, rel1, h1⟩, ?_⟩
  rintro i m σ2 H2 ⟨rfl, hi, G2, α2, Γ2, O2, e2, p2, sl2, rel2, h2⟩
  by_cases hl : i < xs.length
  · rw [List.drop_eq_getElem_cons hl] at h2
    obtain ⟨ok2, h2⟩ := h2
    obtain ⟨hgo, hy⟩ := (sim i G2 α2 O2 H2 e2 p2.1 rel2 ok2).2 xs[i] (List.getElem?_eq_getElem hl)
    refine .inr ⟨hgo, fun σ3 H3 => ∃ G3 α3 Γ3 O3, Ex G1 G3 ∧ Pre α1 α3 ∧ Sl X.K G3 α3 Γ3 σ3 ∧ Rel X.K X.mg G3 α3 O3 H3 ∧ forGo ok t tb DD xe (xs.drop (i + 1)) Γ3 O3,
      fun σ' H' hN => ⟨xs.length - (i + 1), by omega, rfl, hl, hN⟩, fun x H3 y => ?_⟩
    obtain ⟨G3, e3, rel3, rv3⟩ := hy x H3 y
    refine Tg.put_ok t rel3 (sl2.mono e3 (Pre.refl _)) rv3 h2 fun Γ4 σ4 h4 sl4 _ => ?_
    refine ⟨G3, α2, Γ4, O2, _, xe, sl4, rel3, h4, ⟨fun Γ5 O5 h5 σ5 G5 α5 H5 e5 p5 rel5 sl5 => ?_, (p.rt.mono (e1.trans (e2.trans e3)) (p1.trans p2)), p.nx.mono (e1.trans (e2.trans e3)) (p1.trans p2), fun Γ5 O5 h5 σ5 G5 α5 H5 e5 p5 rel5 sl5 => ?_⟩, xp.mono (e1.trans (e2.trans e3)) (p1.trans p2)⟩
    · exact ⟨G5, α5, Γ5, O5, e2.trans (e3.trans e5), p2.trans p5, sl5, rel5, h5⟩
    · exact ⟨G5, α5, Γ5, O5, e2.trans (e3.trans e5), p2.trans p5, sl5, rel5, h5⟩
  · have ei : i = xs.length := by omega
    subst ei
    rw [List.drop_length] at h2
    exact .inl ⟨(sim _ G2 α2 O2 H2 e2 p2.1 rel2 h2.1).1 (Nat.le_refl _), p.nx _ _ h2.2 _ _ _ _ (e1.trans e2) (p1.trans p2) rel2 sl2⟩
/-! #### while -/
end
end Dl
namespace Dl
open PySem PySem.Spec PyProof.Rows L2
variable [TabsC]
section
variable {X : Cx} {Wx : WX} {k : Nat} {a b c e : Expr} {wa wb wc we : DEx} {pos p2 : Pos} {t u : DSt} {st : Stmt} {rest : List Stmt}
/-! #### list comprehensions -/
abbrev W0 : WX := fun _ _ _ _ => False
abbrev X0 : DX := fun _ _ _ => False
theorem xp0 {K : Fg} {mg : Str → Option Value} {G : Hp} {α : Al} {Wx : WX} : XPost K mg G α X0 Wx := fun _ _ _ z => z.elim
theorem Good.blk {s : Shared} {H : Hp} {scope : Scope} {cenv : Env} {fp : List Addr} (g : Good X Wx k) : Good (X.blk s H scope cenv fp) W0 k := ⟨takesN0, PassesOwn.never, g.rm, g.calm, g.nd⟩
def dYes : DT := fun _ O R _ => R true O
/-- the slots of the comprehension's own names forgotten -/
def wipeG (Γ : Gm) : List Nat → Gm
  | [] => Γ
  | v :: vs => (wipeG Γ vs).set v none
theorem sl_wipe {K : Fg} {G : Hp} {α : Al} {Γ : Gm} {σ : L2.St} (h : Sl K G α Γ σ) : ∀ own : List Nat, Sl K G α (wipeG Γ own) (wipe σ own)
  | [] => h
  | v :: vs => (sl_wipe h vs).forget v none
theorem wipe_wipe (σ : L2.St) : ∀ own : List Nat, wipe (wipe σ own) own = wipe σ own
  | [] => rfl
  | v :: vs => by
    show wipe ((wipe σ vs).set v none) (v :: vs) = _
    rw [wipe_set (v := none) (List.mem_cons_self)]
    show (wipe (wipe σ vs) vs).set v none = (wipe σ vs).set v none
    rw [wipe_wipe σ vs]
def lcGo (ok : Oh → Prop) (t : Tg) (tt : DT) (we : DEx) (Γ : Gm) (fin : List PyData → Oh → Prop) : List W → List PyData → Oh → Prop
  | [], acc, O => ok O ∧ fin acc O
  | x :: r, acc, O => ok O ∧ t.put x Γ fun Γ1 => tt Γ1 O (fun b O1 => if b = true then we Γ1 O1 (fun y O2 => match y with
      | .d z => acc.length < 1000000 ∧ lcGo ok t tt we Γ fin r (acc ++ [z]) O2
      | _ => False) X0 else lcGo ok t tt we Γ fin r acc O1) X0
/-- [e for t in w if tt], a list that never changes -/
def dLc (w : DI) (t : Tg) (tt : DT) (we : DEx) (own : List Nat) : DEx := fun Γ O R xe => w Γ O (fun xs ok O1 => lcGo ok t tt we (wipeG Γ own) (fun acc O2 => R (.d (.list acc)) O2) xs [] O1) xe
def DTs (X : Cx) (ifs : List Expr) (tt : DT) : Prop := PTs X ifs (liftT X.K X.mg W0 tt)
theorem dts_nil : DTs X [] dYes := by
  refine ⟨fun pins s σ H Q I h => ?_⟩
  obtain ⟨G, α, Γ, O, R, xe, sl, rel, h, p, xp⟩ := h
  exact (pts_nil (X := X)).run pins s σ H Q I (p.here h rel)
theorem dts_one {c : Expr} {t : DT} (h : DTt X W0 c t) : DTs X [c] t := pts_one h
theorem lift_lcG {K : Fg} {mg : Str → Option Value} {w : DI} {t : Tg} {tt : DT} {we : DEx} {own : List Nat} (hs : t.sub own = true) {σ : L2.St} {H : Hp} {Q : VK} {G : Hp} {α : Al} {Γ : Gm} {O : Oh} {xe : DX} {fin : List PyData → Oh → Prop}
    (sl : Sl K G α Γ σ) (rel : Rel K mg G α O H) (xp : XPost K mg G α xe Wx) (h : w Γ O (fun xs ok O1 => lcGo ok t tt we (wipeG Γ own) fin xs [] O1) xe)
    (hq : ∀ acc O2 G2 as2 H2 vs D, Ex G G2 → α.as <+: as2 → RpL K G2 vs acc → Rel K mg G2 ⟨as2, (D, .lst vs) :: α.hid⟩ O2 H2 → (∀ q ∈ α.hid, q.1 ≠ D) → fin acc O2 → Q (.ref D) H2) :
    tLc (liftI K mg Wx w) (t.g K) (liftT K mg W0 tt) (liftE K mg W0 we) own σ H Q := by
  refine ⟨G, α, Γ, O, _, xe, sl, rel, h, xp, fun xs ok O1 h1 J G1 α1 H1 e1 p1 rel1 sim D hD => ?_⟩
  have slw : Sl K G1 α1 (wipeG Γ own) (wipe σ own) := sl_wipe (sl.mono e1 p1) own
  have hη : ∀ q ∈ α1.hid, q.1 ≠ D := fun q hq => ne_of_none (rel1.hd q hq).1 hD
  -- the list that is made is hidden at D
  refine ⟨fun i m H => m = xs.length - i ∧ i ≤ xs.length ∧ ∃ G2 as2 O2 acc vs, Ex G1 G2 ∧ α1.as <+: as2 ∧ RpL K G2 vs acc ∧ Rel K mg G2 ⟨as2, (D, .lst vs) :: α1.hid⟩ O2 H ∧ lcGo ok t tt we (wipeG Γ own) fin (xs.drop i) acc O2,
    ⟨xs.length, by simp, Nat.zero_le _, G1, α1.as, O1, [], [], Ex.refl _, List.prefix_refl _, .nil, rel1.hidden hD ⟨(fun b z => by cases z), (fun b z => by cases z)⟩, h1⟩, ?_⟩
  rintro i m H2 ⟨rfl, hi, G2, as2, O2, acc, vs, e2, p2, racc, rel2, h2⟩
  by_cases hl : i < xs.length
  · rw [List.drop_eq_getElem_cons hl] at h2
    obtain ⟨ok2, h2⟩ := h2
    obtain ⟨hgo, hy⟩ := (sim i G2 _ O2 H2 e2 p2 rel2 ok2).2 xs[i] (List.getElem?_eq_getElem hl)
    refine .inr ⟨hgo, fun H3 => ∃ G3 as3 O3 acc vs, Ex G1 G3 ∧ α1.as <+: as3 ∧ RpL K G3 vs acc ∧ Rel K mg G3 ⟨as3, (D, .lst vs) :: α1.hid⟩ O3 H3 ∧ lcGo ok t tt we (wipeG Γ own) fin (xs.drop (i + 1)) acc O3,
      fun H' hN => ⟨xs.length - (i + 1), by omega, rfl, hl, hN⟩, fun x H3 y => ?_⟩
    obtain ⟨G3, e3, rel3, rv3⟩ := hy x H3 y
    refine Tg.put_ok t rel3 (slw.mono' (α' := ⟨as2, (D, .lst vs) :: α1.hid⟩) (e2.trans e3) p2) rv3 h2 fun Γ4 σ4 h4 sl4 w4 => ?_
    refine ⟨(w4 own hs).trans (wipe_wipe σ own), ⟨G3, _, Γ4, O2, _, X0, sl4, rel3, h4, fun b O5 h5 G5 α5 H5 e5 p5 rel5 => ?_, xp0⟩⟩
    obtain ⟨as5, hid5⟩ := α5
    obtain ⟨p5a, p5b⟩ := p5
    have p5b : hid5 = (D, .lst vs) :: α1.hid := p5b
    subst p5b
    dsimp only at h5 ⊢
    split at h5
    · next cb =>
      rw [if_pos cb]
      refine ⟨G5, _, Γ4, O5, _, X0, sl4.mono' (α' := ⟨as5, (D, .lst vs) :: α1.hid⟩) e5 p5a, rel5, h5, fun y O6 h6 v6 G6 α6 H6 e6 p6 rel6 r6 => ?_, xp0⟩
      obtain ⟨as6, hid6⟩ := α6
      obtain ⟨p6a, p6b⟩ := p6
      have p6b : hid6 = (D, .lst vs) :: α1.hid := p6b
      subst p6b
      try dsimp only at h6 ⊢
      split at h6
      · next z =>
        have hD6 : H6 D = some (.lst vs) := (rel6.hd (D, .lst vs) List.mem_cons_self).1
        have racc6 : RpL K G6 vs acc := racc.mono (e3.trans (e5.trans e6))
        refine ⟨vs, hD6, by rw [racc6.length]; exact szlt h6.1, G6, as6, O6, acc ++ [z], vs ++ [v6], e2.trans (e3.trans (e5.trans e6)), p2.trans (p5a.trans p6a), racc6.append (.cons r6 .nil), ?_, h6.2⟩
        exact Rel.rehide (α := ⟨as6, []⟩) rel6 ⟨(fun b z => by cases z), (fun b z => by cases z)⟩ hη
      · exact h6.elim
    · next cb =>
      rw [if_neg cb]
      exact ⟨G5, as5, O5, acc, vs, e2.trans (e3.trans e5), p2.trans p5a, racc.mono (e3.trans e5), rel5, h5⟩
  · have ei : i = xs.length := by omega
    subst ei
    rw [List.drop_length] at h2
    refine .inl ⟨(sim _ G2 _ O2 H2 e2 p2 rel2 h2.1).1 (Nat.le_refl _), ?_⟩
    rw [p1.2] at rel2 hη
    exact hq _ _ _ _ _ _ _ (e1.trans e2) (p1.1.trans p2) racc rel2 hη h2.2
theorem lift_lc {K : Fg} {mg : Str → Option Value} {w : DI} {t : Tg} {tt : DT} {we : DEx} {own : List Nat} (hs : t.sub own = true) {σ : L2.St} {H : Hp} {Q : VK} (h : liftE K mg Wx (dLc w t tt we own) σ H Q) :
    tLc (liftI K mg Wx w) (t.g K) (liftT K mg W0 tt) (liftE K mg W0 we) own σ H Q := by
  obtain ⟨G, α, Γ, O, R, xe, sl, rel, h, p, xp⟩ := h
  refine lift_lcG hs sl rel xp h fun acc O2 G2 as2 H2 vs D e2 p2 racc rel2 hη hf => ?_
  have g2 : G2 D = none := (rel2.hd (D, .lst vs) List.mem_cons_self).2.1
  have rel3 := Rel.show (α := ⟨as2, []⟩) rel2 hη
  exact p _ _ hf _ _ ⟨as2, α.hid⟩ _ (e2.trans (Ex.new g2)) ⟨p2, rfl⟩ rel3 (.lst upd_same (racc.mono (Ex.new g2)))
/-- a list that is made, and will change -/
def dLcC (w : DI) (t : Tg) (tt : DT) (we : DEx) (own : List Nat) : DEx := fun Γ O R xe => w Γ O (fun xs ok O1 => lcGo ok t tt we (wipeG Γ own) (fun acc O2 => R (.c O2.length) (O2 ++ [.lst (acc.map W.d)])) xs [] O1) xe
theorem de_lc (g : Good X Wx k) {elt tg iter : Expr} {ifs : List Expr} {scope : Scope} {own : List (Str × Nat)} {w : DI} {tt : DT} (t : Tg) (hs' : t.sub (own.map (·.2)) = true) (hi : DIt X Wx tg iter w) (ok : BlkOk X.N X.env.scope scope own)
    (hg : ∀ (s : Shared) (H : Hp) (C : Addr) (cl : List (Str × Addr)) (fp : List Addr), PG (X.blk s H scope (compEnvC scope cl C X.env) fp) tg (t.g X.K))
    (ht : ∀ (s : Shared) (H : Hp) (C : Addr) (cl : List (Str × Addr)) (fp : List Addr), Good (X.blk s H scope (compEnvC scope cl C X.env) fp) W0 k → DTs (X.blk s H scope (compEnvC scope cl C X.env) fp) ifs tt)
    (he : ∀ (s : Shared) (H : Hp) (C : Addr) (cl : List (Str × Addr)) (fp : List Addr), Good (X.blk s H scope (compEnvC scope cl C X.env) fp) W0 k → DE (X.blk s H scope (compEnvC scope cl C X.env) fp) W0 elt we) (hs : ∀ x, foldedSetIterable iter X.env x = pure x := by intro _; rfl) :
    DE X Wx (.ListComp elt [⟨tg, iter, ifs, 0⟩] scope pos) (dLc w t tt we (own.map (·.2))) :=
  pe_imp (fun σ H Q h => lift_lc hs' h) (pe_lc g.calm g.nd hi ok hg (fun s H C cl fp => ht s H C cl fp g.blk) (fun s H C cl fp => he s H C cl fp g.blk) hs)
theorem ds_setLc (g : Good X Wx k) {i : Nat} {y : Str} {py spos : Pos} {elt tg iter : Expr} {ifs : List Expr} {scope : Scope} {own : List (Str × Nat)} {w : DI} {tt : DT} (hy : X.N[i]? = some y) (hyl : X.env.scope.names.lookup y = some .local)
    (hsw : swapsWith (.ListComp elt [⟨tg, iter, ifs, 0⟩] scope pos) (some (.Name y py)) spos.line X.env = pure true) (t : Tg) (hs' : t.sub (own.map (·.2)) = true) (hi : DIt X Wx tg iter w) (ok : BlkOk X.N X.env.scope scope own)
    (hg : ∀ (s : Shared) (H : Hp) (C : Addr) (cl : List (Str × Addr)) (fp : List Addr), PG (X.blk s H scope (compEnvC scope cl C X.env) fp) tg (t.g X.K))
    (ht : ∀ (s : Shared) (H : Hp) (C : Addr) (cl : List (Str × Addr)) (fp : List Addr), Good (X.blk s H scope (compEnvC scope cl C X.env) fp) W0 k → DTs (X.blk s H scope (compEnvC scope cl C X.env) fp) ifs tt)
    (he : ∀ (s : Shared) (H : Hp) (C : Addr) (cl : List (Str × Addr)) (fp : List Addr), Good (X.blk s H scope (compEnvC scope cl C X.env) fp) W0 k → DE (X.blk s H scope (compEnvC scope cl C X.env) fp) W0 elt we) (hs : ∀ x, foldedSetIterable iter X.env x = pure x := by intro _; rfl) :
    DS X Wx (.Assign [.Name y py] (.ListComp elt [⟨tg, iter, ifs, 0⟩] scope pos) spos) (dAsg (dLc w t tt we (own.map (·.2))) (.nm i)) := by
  refine ps_imp (fun D σ H h => ?_) (ps_setLc (tt := liftT X.K X.mg W0 tt) (te := liftE X.K X.mg W0 we) g.calm g.nd hy hyl hsw hi ok hg (fun s H C cl fp => ht s H C cl fp g.blk) (fun s H C cl fp => he s H C cl fp g.blk) hs)
  exact lift_lc hs' (lift_asg h)
/-! #### calls of defs -/
def dCall (f : DFn) (ws : DA) : DEx := fun Γ O R xe => ws Γ O (fun vs O1 => f vs O1 R fun ex O2 => xe ex Γ O2) xe
variable {f : Addr} {fd : FuncData} {ps : List Str} {df : DFn} {x : Str} {p : Pos} {es : List Expr} {ws : DA}
theorem lift_call {K : Fg} {mg : Str → Option Value} {σ : L2.St} {H : Hp} {Q : VK} (h : liftE K mg Wx (dCall df ws) σ H Q) : tCallS (liftF K mg df) (WE Wx) (liftA K mg Wx ws) σ H Q := by
  obtain ⟨G, α, Γ, O, R, xe, sl, rel, h, p, xp⟩ := h
  refine ⟨G, α, Γ, O, _, xe, sl, rel, h, fun vs O1 h1 us G1 α1 H1 e1 p1 rel1 r1 => ?_, xp⟩
  exact ⟨G1, α1, vs, O1, R, _, r1, rel1, h1, p.mono e1 p1, fun ex O2 h2 cls d G2 α2 H2 e2 p2 rel2 xo => xp _ _ _ h2 _ _ _ _ _ _ (e1.trans e2) (p1.trans p2) rel2 (sl.mono (e1.trans e2) (p1.trans p2)) xo⟩
theorem de_callX {CX : CXT} (g : Good X Wx k) (hp : ∀ σ, PassesAt CX X σ (WE Wx σ)) {j : Nat} (F : FnOk X.prog X.w X.K X.mg X.base CX j f fd ps (liftF X.K X.mg df)) (hj : j ≤ k) (hm : X.mg x = some (.ref f)) (hk : PySem.W.keepIn X.K (.ref f) = true) (hb : Binds X.K fd ps []) (ha : DAs X Wx (e :: es) ws)
    (hg : Gl X x := by rfl) (hdb : (x == ("__debug__" : Str)) = false := by decide) (he : starEach (e :: es) X.env = (false, eval e X.env) :: starEach es X.env := by rfl) (hpl : (backTo pos (starEach es X.env)).any (·.1) = false := by rfl) :
    DE X Wx (.Call (.Name x p) (e :: es) [] pos) (dCall df ws) :=
  pe_imp (fun σ H Q h => lift_call h) (pe_callS F (g.rm.mono hj) hg hm hk hb hp ha hdb he hpl)
theorem de_call (g : Good X Wx k) {j : Nat} (F : FnOk X.prog X.w X.K X.mg X.base (L2N.CX X.prog X.w) j f fd ps (liftF X.K X.mg df)) (hj : j ≤ k) (hm : X.mg x = some (.ref f)) (hk : PySem.W.keepIn X.K (.ref f) = true) (hb : Binds X.K fd ps []) (ha : DAs X Wx (e :: es) ws)
    (hg : Gl X x := by rfl) (hdb : (x == ("__debug__" : Str)) = false := by decide) (he : starEach (e :: es) X.env = (false, eval e X.env) :: starEach es X.env := by rfl) (hpl : (backTo pos (starEach es X.env)).any (·.1) = false := by rfl) :
    DE X Wx (.Call (.Name x p) (e :: es) [] pos) (dCall df ws) :=
  de_callX g (fun σ => L2N.passAt g.tk σ) F hj hm hk hb ha hg hdb he hpl
/-! #### a def -/
/-- the cells that came beside are forgotten: nothing came, or what stands is closed -/
def Fin (n : Nat) (O' : Oh) (k : Oh → Prop) : Prop := (O'.length = n ∧ k O') ∨ (Clo n (O'.take n) = true ∧ k (O'.take n))
/-- the answer: a cell is told as a list that never changes -/
def dAns (n : Nat) (R : DK) (r : W) (O' : Oh) : Prop := match r with
  | .c j => if j < n then Fin n O' (R (.c j)) else match O'[j]? with
    | some (.lst ws) => match datas ws with
      | some ds => Fin n O' (R (.d (.list ds)))
      | none => False
    | _ => False
  | .t xs => (W.t xs).lt n = true ∧ Fin n O' (R (.t xs))
  | _ => Fin n O' (R r)
def startG (N : Nat) (ws : List W) : Gm := ws.map some ++ List.replicate (N - ws.length) none
def dDef (N n : Nat) (b : DSt) : DFn := fun ws O R xe => ws.length = n ∧ (Clo O.length O = true → b ⟨fun _ O' => Fin O.length O' (R (.d .none)), dAns O.length R, fun _ _ => False, fun _ _ => False⟩ (fun ex _ O' => Fin O.length O' (xe ex)) (startG N ws) O)
/-- .. a new cell is the answer -/
def dAnsC (n : Nat) (R : DK) (r : W) (O' : Oh) : Prop := match r with
  | .c j => n ≤ j ∧ Clo n (O'.take n) = true ∧ ∃ c, O'[j]? = some c ∧ c.lt n = true ∧ R (.c n) (O'.take n ++ [c])
  | .t xs => (W.t xs).lt n = true ∧ Fin n O' (R (.t xs))
  | _ => Fin n O' (R r)
def dDefC (N n : Nat) (b : DSt) : DFn := fun ws O R xe => ws.length = n ∧ (Clo O.length O = true → b ⟨fun _ O' => Fin O.length O' (R (.d .none)), dAnsC O.length R, fun _ _ => False, fun _ _ => False⟩ (fun ex _ O' => Fin O.length O' (xe ex)) (startG N ws) O)
theorem sl_start {K : Fg} {G : Hp} {α : Al} {vs : List V} {ws : List W} {N : List Str} (r : RvL K G α vs ws) : Sl K G α (startG N.length ws) (L2.start N vs) := by
  have hl := r.len
  refine ⟨?_, fun i w h => ?_⟩
  · unfold startG L2.start
    rw [List.length_append, List.length_append, List.length_map, List.length_map, List.length_replicate, List.length_replicate, hl]
  · unfold startG at h
    unfold L2.start
    by_cases hi : i < ws.length
    · rw [List.getElem?_append_left (by rw [List.length_map]; exact hi), List.getElem?_map] at h
      cases hw : ws[i]? with
      | none => rw [hw] at h; cases h
      | some w' =>
        rw [hw] at h
        cases h
        obtain ⟨v, hv, rv⟩ := r.get hw
        refine ⟨v, ?_, rv⟩
        rw [List.getElem?_append_left (by rw [List.length_map]; omega), List.getElem?_map, hv]
        rfl
    · rw [List.getElem?_append_right (by rw [List.length_map]; omega)] at h
      have := List.getElem?_eq_some_iff.mp h
      obtain ⟨l, e⟩ := this
      rw [List.getElem_replicate] at e
      cases e
theorem fin_ok {K : Fg} {mg : Str → Option Value} {G' : Hp} {α α' : Al} {O O' : Oh} {H' : Hp} {k : Oh → Prop} (rel : α.as.length = O.length) (p : Pre α α') (rel' : Rel K mg G' α' O' H') (h : Fin O.length O' k) :
    ∃ α'' O'', Pre α α'' ∧ Rel K mg G' α'' O'' H' ∧ k O'' ∧ (∀ v r, Rv K G' α' v r → r.lt O.length = true → Rv K G' α'' v r) := by
  rcases h with ⟨_, h⟩ | ⟨c, h⟩
  · exact ⟨α', O', p, rel', h, fun _ _ r _ => r⟩
  · refine ⟨α'.cut O.length, _, ⟨?_, p.2⟩, rel'.cut c, h, fun v r rv l => rv.cut l⟩
    obtain ⟨t, ht⟩ := p.1
    show α.as <+: α'.as.take O.length
    rw [← ht, ← rel, List.take_left]
    exact List.prefix_refl _
/-- how a def's body gives its promise -/
def MkFn (P : Program) (w : World) (K : Fg) (mg : Str → Option Value) (base : Heap) (CX : CXT) (qual : Str) (st : Stmt) (N ps : List Str) (k : Nat) (f : Addr) (fd : FuncData) : Prop :=
  ∀ (sp : Sp), (∀ vs H Q E, sp vs H Q E → vs.length = ps.length) →
    (∀ (cdv : Value) (A : Around) (outer : List Env) (s : Shared) (H : Hp) (vs : List V) (Q : VK) (E : XK), Room k (A.deeper (envOfC qual (defScope st) s.heap.objs.size f cdv)) → sp vs H Q E →
      ∃ t, PSs (cxOf CX P w K mg base N qual (defScope st) f cdv A outer s H E) (defBody st) t ∧ t { nx := fun _ H' => Q .non H', rt := Q } (L2.start N vs) H) → FnOk P w K mg base CX (k + 1) f fd ps sp
theorem Fun.mk {CX : CXT} {P : Program} {w : World} {K : Fg} {mg : Str → Option Value} {base : Heap} {x qual : Str} {st : Stmt} {f : Addr} {fd : FuncData} {N ps : List Str} {k : Nat} (F : Fun K x qual st f fd) (S : FnScope N ps (defScope st)) : MkFn P w K mg base CX qual st N ps k f fd := by
  intro sp len hbody
  obtain ⟨oc, od, kV, doc, pm, an, cdv, ct, osl, rfl, lk, hcd⟩ := F.ex
  exact fn_of lk hcd S len fun A outer s H vs Q E hr hsp => hbody cdv A outer s H vs Q E hr hsp
theorem def_in {K : Fg} {mg : Str → Option Value} {N ps : List Str} {b : DSt} {vs : List V} {H : Hp} {Q : VK} {E : XK} (h : liftF K mg (dDef N.length ps.length b) vs H Q E) :
    liftS K mg (fun cls d _ H => E cls d H) b { nx := fun _ H' => Q .non H', rt := Q } (L2.start N vs) H := by
  obtain ⟨G, α, ws, O, R, xe, r, rel, ⟨hl, hw⟩, p, xp⟩ := h
  refine ⟨G, α, startG N.length ws, O, _, _, sl_start r, rel, hw rel.clo, ⟨?_, ?_, fun _ _ z => z.elim, fun _ _ z => z.elim⟩, ?_⟩
  · intro Γ' O' h' σ' G' α' H' e' p' rel' _
    obtain ⟨α'', O'', p'', rel'', q, _⟩ := fin_ok rel.len p' rel' h'
    exact p _ _ q _ _ _ _ e' p'' rel'' .non
  · intro r' O' h' v G' α' H' e' p' rel' rv'
    have h' : dAns O.length R r' O' := h'
    have rel' : Rel K mg G' α' O' H' := rel'
    have rv' : Rv K G' α' v r' := rv'
    show Q v H'
    cases r' with
    | d x =>
      obtain ⟨α'', O'', p'', rel'', q, c⟩ := fin_ok rel.len p' rel' (show Fin O.length O' (R (.d x)) from h')
      exact p _ _ q _ _ _ _ e' p'' rel'' (c _ _ rv' rfl)
    | k x =>
      obtain ⟨α'', O'', p'', rel'', q, c⟩ := fin_ok rel.len p' rel' (show Fin O.length O' (R (.k x)) from h')
      exact p _ _ q _ _ _ _ e' p'' rel'' (c _ _ rv' rfl)
    | p x =>
      obtain ⟨α'', O'', p'', rel'', q, c⟩ := fin_ok rel.len p' rel' (show Fin O.length O' (R (.p x)) from h')
      exact p _ _ q _ _ _ _ e' p'' rel'' (c _ _ rv' rfl)
    | q x y =>
      obtain ⟨α'', O'', p'', rel'', q, c⟩ := fin_ok rel.len p' rel' (show Fin O.length O' (R (.q x y)) from h')
      exact p _ _ q _ _ _ _ e' p'' rel'' (c _ _ rv' rfl)
    | e x y =>
      obtain ⟨α'', O'', p'', rel'', q, c⟩ := fin_ok rel.len p' rel' (show Fin O.length O' (R (.e x y)) from h')
      exact p _ _ q _ _ _ _ e' p'' rel'' (c _ _ rv' rfl)
    | o x y z =>
      obtain ⟨α'', O'', p'', rel'', q, c⟩ := fin_ok rel.len p' rel' (show Fin O.length O' (R (.o x y z)) from h')
      exact p _ _ q _ _ _ _ e' p'' rel'' (c _ _ rv' rfl)
    | t x =>
      have h' : (W.t x).lt O.length = true ∧ Fin O.length O' (R (.t x)) := h'
      obtain ⟨α'', O'', p'', rel'', q, c⟩ := fin_ok rel.len p' rel' h'.2
      exact p _ _ q _ _ _ _ e' p'' rel'' (c _ _ rv' h'.1)
    | c j =>
      unfold dAns at h'
      dsimp only at h'
      split at h'
      · next hj =>
        obtain ⟨α'', O'', p'', rel'', q, c⟩ := fin_ok rel.len p' rel' h'
        exact p _ _ q _ _ _ _ e' p'' rel'' (c _ _ rv' (decide_eq_true hj))
      · next hj =>
        split at h'
        · next ws' ej =>
          split at h'
          · next ds ed =>
            obtain ⟨a, ha, rfl⟩ := rv'
            obtain ⟨g0, vs', hH, rl⟩ := rel'.at_ j a _ ha ej
            have rel2 := rel'.freeze ha ej hH g0
            rw [datas_eq ed] at rl
            have rd := rl.toD
            have h2 : Fin O.length (O'.set j .gone) (R (.d (.list ds))) := by
              have hjl : j < O'.length := (List.getElem?_eq_some_iff.mp ej).1
              rcases h' with ⟨z, _⟩ | ⟨z1, z2⟩
              · omega
              · refine .inr ?_
                rw [List.take_set_of_le (by omega)]
                exact ⟨z1, z2⟩
            obtain ⟨α'', O'', p'', rel'', q, c⟩ := fin_ok rel.len p' rel2 h2
            have ee : Ex G' (upd G' a (.lst vs')) := Ex.new g0
            exact p _ _ q _ _ _ _ (e'.trans ee) p'' rel'' (.lst upd_same (rd.mono ee))
          · exact h'.elim
        · exact h'.elim
  · intro ex Γ' O' h' cls d σ' G' α' H' e' p' rel' _ xo
    obtain ⟨α'', O'', p'', rel'', q, _⟩ := fin_ok rel.len p' rel' h'
    exact xp _ _ q _ _ _ _ _ e' p'' rel'' xo
theorem ok_defG {CX : CXT} {P : Program} {w : World} {K : Fg} {mg : Str → Option Value} {base : Heap} {qual : Str} {st : Stmt} {f : Addr} {fd : FuncData} {N ps : List Str} {k : Nat} {b : DSt} (mk : MkFn P w K mg base CX qual st N ps k f fd)
    (hb : ∀ (cdv : Value) (A : Around) (outer : List Env) (s : Shared) (H : Hp) (E : XK), Room k (A.deeper (envOfC qual (defScope st) s.heap.objs.size f cdv)) →
      DSs (cxOf CX P w K mg base N qual (defScope st) f cdv A outer s H E) (fun cls d _ H => E cls d H) (defBody st) b) :
    FnOk P w K mg base CX (k + 1) f fd ps (liftF K mg (dDef N.length ps.length b)) := by
  refine mk _ (fun vs H Q E h => ?_) (fun cdv A outer s H vs Q E hr h => ?_)
  · obtain ⟨G, α, ws, O, R, xe, r, rel, ⟨hl, _⟩, _⟩ := h
    rw [r.len, hl]
  · exact ⟨_, hb cdv A outer s H E hr, def_in h⟩
theorem ok_def {P : Program} {w : World} {K : Fg} {mg : Str → Option Value} {base : Heap} {x qual : Str} {st : Stmt} {f : Addr} {fd : FuncData} {N ps : List Str} {k : Nat} {b : DSt} (F : Fun K x qual st f fd) (S : FnScope N ps (defScope st))
    (hb : ∀ (cdv : Value) (A : Around) (outer : List Env) (s : Shared) (H : Hp) (E : XK), Good (cxOf (L2N.CX P w) P w K mg base N qual (defScope st) f cdv A outer s H E) (fun cls d _ H => E cls d H) k →
      DSs (cxOf (L2N.CX P w) P w K mg base N qual (defScope st) f cdv A outer s H E) (fun cls d _ H => E cls d H) (defBody st) b) :
    FnOk P w K mg base (L2N.CX P w) (k + 1) f fd ps (liftF K mg (dDef N.length ps.length b)) :=
  ok_defG (Fun.mk F S) fun cdv A outer s H E hr => hb cdv A outer s H E ⟨L2N.takes_of rfl rfl rfl rfl, passes_of rfl, hr, rfl, S.nd⟩
/-- of the cells that came, one stays -/
theorem Rel.pick {K : Fg} {mg : Str → Option Value} {G : Hp} {α : Al} {O : Oh} {H : Hp} {n j : Nat} {p : Addr} {c : Cell} (R : Rel K mg G α O H) (hp : α.as[j]? = some p) (hj : n ≤ j) (ej : O[j]? = some c) (l : Clo n (O.take n) = true) (lc : c.lt n = true) : Rel K mg G ((α.cut n).push p) (O.take n ++ [c]) H := by
  have hz : n ≤ α.as.length := Nat.le_trans hj (Nat.le_of_lt (List.getElem?_eq_some_iff.mp hp).1)
  have hm : p ∈ α.as := List.mem_of_getElem? hp
  have sub : ∀ a ∈ ((α.cut n).push p).as, a ∈ α.as := fun a ha => by
    rcases List.mem_append.mp ha with h | h
    · exact List.mem_of_mem_take h
    · rw [List.mem_singleton.mp h]; exact hm
  have key : ∀ (k : Nat) (a : Addr) (c : Cell), α.as[k]? = some a → O[k]? = some c → c.lt n = true → COk K mg G ((α.cut n).push p) H a c := by
    intro k a c h1 h2 hc
    have z := R.at_ k a c h1 h2
    have e : Ex G G := Ex.refl _
    have pp : Pre (α.cut n) ((α.cut n).push p) := Pre.push
    cases c with
    | lst xs => obtain ⟨h0, vs, q, h⟩ := z; exact ⟨h0, vs, q, RvL.mono e pp (h.cut hc)⟩
    | dic xs => obtain ⟨h0, vs, q, h⟩ := z; exact ⟨h0, vs, q, RK.mono e pp (h.cut hc)⟩
    | dct xs => obtain ⟨h0, vs, q, h⟩ := z; exact ⟨h0, vs, q, RK.mono e pp (h.cut hc)⟩
    | ldic od es xs => obtain ⟨h0, q, h⟩ := z; exact ⟨h0, q, RK.mono e pp (h.cut hc)⟩
    | ldct od es xs => obtain ⟨h0, q, h⟩ := z; exact ⟨h0, q, RK.mono e pp (h.cut hc)⟩
    | ins C xs => obtain ⟨h0, Ca, dx, es, q1, q2, q3, q4, q5, h⟩ := z; exact ⟨h0, Ca, dx, es, q1, q2, q3, q4, fun m => q5 (sub _ m), RK.mono e pp (h.cut hc)⟩
    | exn C fs => obtain ⟨h0, Ca, d, q1, q2, q3⟩ := z; exact ⟨h0, Ca, d, q1, q2, q3⟩
    | gone => trivial
  have lt : (α.as.take n).length = n := by rw [List.length_take]; omega
  have lt' : (O.take n).length = n := by rw [List.length_take, ← R.len]; omega
  refine ⟨R.ex, ?_, ?_, fun a ha => R.liv a (sub a ha), fun k a d h1 h2 => ?_, fun q hq => ?_, R.tb.mono (fun _ _ _ _ _ g => g) (fun _ _ h _ _ => h) (fun _ _ _ _ o => ⟨fun z => o.1 (sub _ z), o.2⟩)⟩
  · show (α.as.take n ++ [p]).length = _
    rw [List.length_append, List.length_append, lt, lt']; rfl
  · show (α.as.take n ++ [p]).Nodup
    rw [List.nodup_append]
    refine ⟨R.nd.sublist (List.take_sublist _ _), by simp, fun a ha b hb => ?_⟩
    rw [List.mem_singleton] at hb
    subst hb
    intro z
    subst z
    obtain ⟨i, hi, ei⟩ := List.getElem_of_mem ha
    rw [List.getElem_take] at ei
    rw [lt] at hi
    have e2 : α.as[i]? = α.as[j]? := by rw [hp, ← ei]; exact List.getElem?_eq_getElem _
    have := (List.getElem?_inj (i := i) (by omega) R.nd).mp e2
    omega
  · have h1 : (α.as.take n ++ [p])[k]? = some a := h1
    by_cases hk : k < n
    · rw [List.getElem?_append_left (by omega), List.getElem?_take, if_pos hk] at h1 h2
      refine key k a d h1 h2 ?_
      unfold Clo at l
      rw [List.all_eq_true] at l
      exact l d (List.mem_of_getElem? (show (O.take n)[k]? = some d by rw [List.getElem?_take, if_pos hk]; exact h2))
    · by_cases hk2 : k = n
      · subst hk2
        rw [List.getElem?_append_right (by omega), lt, Nat.sub_self] at h1
        rw [List.getElem?_append_right (by omega), lt', Nat.sub_self] at h2
        cases h1
        cases h2
        exact key j _ _ hp ej lc
      · rw [List.getElem?_eq_none (by rw [List.length_append, lt]; simp; omega)] at h1
        cases h1
  · obtain ⟨q1, q2, q3, q4⟩ := R.hd q hq
    exact ⟨q1, q2, fun z => q3 (sub _ z), q4⟩
theorem def_inC {K : Fg} {mg : Str → Option Value} {N ps : List Str} {b : DSt} {vs : List V} {H : Hp} {Q : VK} {E : XK} (h : liftF K mg (dDefC N.length ps.length b) vs H Q E) :
    liftS K mg (fun cls d _ H => E cls d H) b { nx := fun _ H' => Q .non H', rt := Q } (L2.start N vs) H := by
  obtain ⟨G, α, ws, O, R, xe, r, rel, ⟨hl, hw⟩, p, xp⟩ := h
  refine ⟨G, α, startG N.length ws, O, _, _, sl_start r, rel, hw rel.clo, ⟨?_, ?_, fun _ _ z => z.elim, fun _ _ z => z.elim⟩, ?_⟩
  · intro Γ' O' h' σ' G' α' H' e' p' rel' _
    obtain ⟨α'', O'', p'', rel'', q, _⟩ := fin_ok rel.len p' rel' h'
    exact p _ _ q _ _ _ _ e' p'' rel'' .non
  · intro r' O' h' v G' α' H' e' p' rel' rv'
    have h' : dAnsC O.length R r' O' := h'
    have rel' : Rel K mg G' α' O' H' := rel'
    have rv' : Rv K G' α' v r' := rv'
    show Q v H'
    cases r' with
    | d x =>
      obtain ⟨α'', O'', p'', rel'', q, c⟩ := fin_ok rel.len p' rel' (show Fin O.length O' (R (.d x)) from h')
      exact p _ _ q _ _ _ _ e' p'' rel'' (c _ _ rv' rfl)
    | k x =>
      obtain ⟨α'', O'', p'', rel'', q, c⟩ := fin_ok rel.len p' rel' (show Fin O.length O' (R (.k x)) from h')
      exact p _ _ q _ _ _ _ e' p'' rel'' (c _ _ rv' rfl)
    | p x =>
      obtain ⟨α'', O'', p'', rel'', q, c⟩ := fin_ok rel.len p' rel' (show Fin O.length O' (R (.p x)) from h')
      exact p _ _ q _ _ _ _ e' p'' rel'' (c _ _ rv' rfl)
    | q x y =>
      obtain ⟨α'', O'', p'', rel'', q, c⟩ := fin_ok rel.len p' rel' (show Fin O.length O' (R (.q x y)) from h')
      exact p _ _ q _ _ _ _ e' p'' rel'' (c _ _ rv' rfl)
    | e x y =>
      obtain ⟨α'', O'', p'', rel'', q, c⟩ := fin_ok rel.len p' rel' (show Fin O.length O' (R (.e x y)) from h')
      exact p _ _ q _ _ _ _ e' p'' rel'' (c _ _ rv' rfl)
    | o x y z =>
      obtain ⟨α'', O'', p'', rel'', q, c⟩ := fin_ok rel.len p' rel' (show Fin O.length O' (R (.o x y z)) from h')
      exact p _ _ q _ _ _ _ e' p'' rel'' (c _ _ rv' rfl)
    | t x =>
      have h' : (W.t x).lt O.length = true ∧ Fin O.length O' (R (.t x)) := h'
      obtain ⟨α'', O'', p'', rel'', q, c⟩ := fin_ok rel.len p' rel' h'.2
      exact p _ _ q _ _ _ _ e' p'' rel'' (c _ _ rv' h'.1)
    | c j =>
      obtain ⟨hj, hl, c, ec, lc, q⟩ := h'
      obtain ⟨a, ha, rfl⟩ := rv'
      have rel2 := rel'.pick ha hj ec hl lc
      obtain ⟨t, ht⟩ := p'.1
      have lt : (α'.as.take O.length) = α.as := by rw [← ht, ← rel.len, List.take_left]
      refine p _ _ q _ _ ((α'.cut O.length).push a) _ e' ⟨?_, p'.2⟩ rel2 ⟨a, ?_, rfl⟩
      · show α.as <+: α'.as.take O.length ++ [a]
        rw [lt]
        exact List.prefix_append _ _
      · show (α'.as.take O.length ++ [a])[O.length]? = some a
        rw [lt, List.getElem?_append_right (by rw [rel.len]; exact Nat.le_refl _), rel.len, Nat.sub_self]
        rfl
  · intro ex Γ' O' h' cls d σ' G' α' H' e' p' rel' _ xo
    obtain ⟨α'', O'', p'', rel'', q, _⟩ := fin_ok rel.len p' rel' h'
    exact xp _ _ q _ _ _ _ _ e' p'' rel'' xo
theorem ok_defCG {CX : CXT} {P : Program} {w : World} {K : Fg} {mg : Str → Option Value} {base : Heap} {qual : Str} {st : Stmt} {f : Addr} {fd : FuncData} {N ps : List Str} {k : Nat} {b : DSt} (mk : MkFn P w K mg base CX qual st N ps k f fd)
    (hb : ∀ (cdv : Value) (A : Around) (outer : List Env) (s : Shared) (H : Hp) (E : XK), Room k (A.deeper (envOfC qual (defScope st) s.heap.objs.size f cdv)) →
      DSs (cxOf CX P w K mg base N qual (defScope st) f cdv A outer s H E) (fun cls d _ H => E cls d H) (defBody st) b) :
    FnOk P w K mg base CX (k + 1) f fd ps (liftF K mg (dDefC N.length ps.length b)) := by
  refine mk _ (fun vs H Q E h => ?_) (fun cdv A outer s H vs Q E hr h => ?_)
  · obtain ⟨G, α, ws, O, R, xe, r, rel, ⟨hl, _⟩, _⟩ := h
    rw [r.len, hl]
  · exact ⟨_, hb cdv A outer s H E hr, def_inC h⟩
theorem ok_defC {P : Program} {w : World} {K : Fg} {mg : Str → Option Value} {base : Heap} {x qual : Str} {st : Stmt} {f : Addr} {fd : FuncData} {N ps : List Str} {k : Nat} {b : DSt} (F : Fun K x qual st f fd) (S : FnScope N ps (defScope st))
    (hb : ∀ (cdv : Value) (A : Around) (outer : List Env) (s : Shared) (H : Hp) (E : XK), Good (cxOf (L2N.CX P w) P w K mg base N qual (defScope st) f cdv A outer s H E) (fun cls d _ H => E cls d H) k →
      DSs (cxOf (L2N.CX P w) P w K mg base N qual (defScope st) f cdv A outer s H E) (fun cls d _ H => E cls d H) (defBody st) b) :
    FnOk P w K mg base (L2N.CX P w) (k + 1) f fd ps (liftF K mg (dDefC N.length ps.length b)) :=
  ok_defCG (Fun.mk F S) fun cdv A outer s H E hr => hb cdv A outer s H E ⟨L2N.takes_of rfl rfl rfl rfl, passes_of rfl, hr, rfl, S.nd⟩
end
end Dl
namespace Dl
open PySem PySem.Spec PyProof.Rows L2
variable [TabsC]
/-! #### tuples known to have no dict of their own -/
section
variable {X : Cx}
def rCatF (K : Fg) : R2 := fun x y H Q => ∃ a b xs ys, x = .ref a ∧ y = .ref b ∧ SqT K H a xs ∧ SqT K H b ys ∧ xs.length + ys.length ≤ sizeLine ∧
  (xs = [] → Q (.ref b) H) ∧ (xs ≠ [] → ys = [] → Q (.ref a) H) ∧ (xs ≠ [] → ys ≠ [] → ∀ p ob, H p = none → ob.dict = none → Q (.ref p) (upd H p (.frz ob (.tup (xs ++ ys)))))
theorem op_catF : OpR X (binaryOp .Add) (rCatF X.K) := by
  intro pins s σ H x y v u Q I rx ry h
  obtain ⟨a, b, xs, ys, rfl, rfl, ha, hb, hz, q0, q1, q2⟩ := h
  cases rx
  cases ry
  obtain ⟨its, r1, p1, _⟩ := I.tuple ha
  obtain ⟨its2, r2, p2, _⟩ := I.tuple hb
  by_cases hx : xs = []
  · subst hx
    cases r1
    exact L2.cat_tup0 p1 p2 ⟨.ref b, H, I, rfl, q0 rfl⟩
  · refine HT.cat_tup p1 p2 (fun z => hx (r1.nil_iff.mp z)) (fun z => ⟨.ref a, H, I, rfl, q1 hx (r2.nil_iff.mp z)⟩) (fun z => ?_) (by rw [← r1.length, ← r2.length]; exact hz)
    refine ⟨.ref s.heap.objs.size, _, I.laid (t' := s.toks) (o := .frz { cls := .type "tuple", data := .seq (its ++ its2).toArray } (.tup (xs ++ ys))) (fun b ob q => Heap.get?_push_of_some _ q) (Nat.le_refl _) ?_, rfl, q2 hx (fun w => z (r2.nil_iff.mpr w)) _ _ (I.hok.fresh (Nat.le_refl _)) rfl⟩
    exact ⟨Heap.get?_push_size _ rfl, by rw [List.length_append]; exact hz, _, r1.append r2, IsTup.new _ _⟩
def rTupOf (K : Fg) : List V → Hp → VK → Prop := fun xs H Q => ∃ p ys, xs = [.ref p] ∧ ((SqL K H p ys ∧ ∀ l ob, H l = none → ob.dict = none → Q (.ref l) (upd H l (.frz ob (.tup ys)))) ∨ (SqT K H p ys ∧ Q (.ref p) H))
theorem call_tupOf : CallR X (.type "tuple") (rTupOf X.K) := by
  intro pins s σ H xs us Q I r h
  obtain ⟨p, ys, rfl, h⟩ := h
  obtain ⟨u, rfl, rx⟩ := vals1 r
  cases rx
  rcases h with ⟨hq, q⟩ | ⟨hq, q⟩
  · obtain ⟨its, r', pl, hz⟩ := I.list hq
    have hlen := r'.length
    refine call_tuple_list pl.isList (fun h' kp => ?_) (by simp only [List.size_toArray] <;> omega)
    have I1 : Inv X pins σ H { s with heap := h' } := I.kept (t' := s.toks) kp
    have I2 : Inv X pins σ (upd H h'.objs.size (.frz { cls := .type "tuple", data := .seq its.toArray } (.tup ys))) { s with heap := h'.push { cls := .type "tuple", data := .seq its.toArray } } :=
      I1.laid (t' := s.toks) (fun b o e => Heap.get?_push_of_some _ e) (Nat.le_refl _) (show ObjOk X.prog X.w _ _ _ (.frz _ (.tup ys)) from ⟨Heap.get?_push_size _ rfl, hz, its, r', IsTup.new _ _⟩)
    exact ⟨.ref h'.objs.size, _, I2, rfl, q _ _ (I1.hok.fresh (Nat.le_refl _)) rfl⟩
  · obtain ⟨its, r', pl, hz⟩ := I.tuple hq
    exact call_tuple_same pl ⟨.ref p, H, I, rfl, q⟩
def rSlF (K : Fg) : V → Option Int → Option Int → Hp → VK → Prop := fun x lo hi H Q => ∃ a xs, x = .ref a ∧ SqT K H a xs ∧
  (HT.sIx xs.length 0 lo = 0 ∧ HT.sIx xs.length xs.length hi = xs.length → Q (.ref a) H) ∧ (¬ (HT.sIx xs.length 0 lo = 0 ∧ HT.sIx xs.length xs.length hi = xs.length) → ∀ p ob, H p = none → ob.dict = none → Q (.ref p) (upd H p (.frz ob (.tup (cutV xs lo hi)))))
theorem sl_tupF : SlR X (rSlF X.K) := by
  intro pins s σ H x v vl vu lo hi sl Q I rx hs pl pu h
  obtain ⟨a, xs, rfl, hx, q1, q2⟩ := h
  cases rx
  obtain ⟨its, r, ht, hz⟩ := I.tuple hx
  have hlen : its.toArray.size = xs.length := by rw [List.size_toArray]; exact r.length.symm
  refine ⟨"tuple", _, PyProof.Rows.slot_tuple_getitem.lookup, ht.typeIs, ?_⟩
  by_cases hw : HT.sIx xs.length 0 lo = 0 ∧ HT.sIx xs.length xs.length hi = xs.length
  · exact L2.getItem_tuple_whole ht hs pl pu (by rw [hlen]; exact hw) ⟨.ref a, H, I, rfl, q1 hw⟩
  · refine HT.getItem_tuple_cut ht hs pl pu (by rw [hlen]; exact hw) ?_ (by rw [hlen]; exact hz)
    rw [hlen]
    have ok : ObjOk X.prog X.w (upd H s.heap.objs.size (.frz { cls := .type "tuple", data := .seq ((its.toArray.toList.drop (HT.sIx xs.length 0 lo)).take (HT.sIx xs.length xs.length hi - HT.sIx xs.length 0 lo)).toArray } (.tup (cutV xs lo hi)))) (s.heap.push { cls := .type "tuple", data := .seq ((its.toArray.toList.drop (HT.sIx xs.length 0 lo)).take (HT.sIx xs.length xs.length hi - HT.sIx xs.length 0 lo)).toArray }) s.heap.objs.size (.frz { cls := .type "tuple", data := .seq ((its.toArray.toList.drop (HT.sIx xs.length 0 lo)).take (HT.sIx xs.length xs.length hi - HT.sIx xs.length 0 lo)).toArray } (.tup (cutV xs lo hi))) :=
      ⟨Heap.get?_push_size _ rfl, Nat.le_trans (cutV_length xs lo hi) hz, _, (r.drop (HT.sIx xs.length 0 lo)).take (HT.sIx xs.length xs.length hi - HT.sIx xs.length 0 lo), IsTup.new _ _⟩
    exact ⟨.ref s.heap.objs.size, _, I.laid (t' := s.toks) (fun b ob q => Heap.get?_push_of_some _ q) (Nat.le_refl _) ok, rfl, q2 hw _ _ (I.hok.fresh (Nat.le_refl _)) rfl⟩
end
/-! #### what stands as a list, as a list or tuple -/
def asL : W → Oh → Option (List W)
  | .d (.list ds), _ => some (ds.map W.d)
  | .c j, O => match O[j]? with
    | some (.lst ws) => some ws
    | _ => none
  | _, _ => none
def asS : W → Oh → Option (List W)
  | .d (.list ds), _ => some (ds.map W.d)
  | .d (.tuple ds), _ => some (ds.map W.d)
  | .d (.dict [(.none, .list ds)]), _ => some (ds.map W.d)
  | .p ds, _ => some (ds.map W.d)
  | .k ks, _ => some (ks.map fun x => W.d (keyD x))
  | .t xs, _ => some (xs.map tiW)
  | .c j, O => match O[j]? with
    | some (.lst ws) => some ws
    | _ => none
  | _, _ => none
section
variable {K : Fg} {mg : Str → Option Value} {G : Hp} {α : Al} {O : Oh} {H : Hp}
theorem asL_ok {v : V} {x : W} {ws : List W} (rel : Rel K mg G α O H) (r : Rv K G α v x) (h : asL x O = some ws) : ∃ a vs, v = .ref a ∧ H a = some (.lst vs) ∧ RvL K G α vs ws := by
  unfold asL at h
  split at h
  · cases h
    cases r with
    | lst hs ha => exact ⟨_, _, rfl, rel.ex _ _ hs, RvL.ofD ha⟩
  · next O' j =>
    split at h
    · next ws' e =>
      cases h
      obtain ⟨a, ha, rfl⟩ := r
      obtain ⟨_, vs, hH, rl⟩ := rel.at_ j a _ ha e
      exact ⟨a, vs, rfl, hH, rl⟩
    · cases h
  · cases h
theorem asS_ok {v : V} {x : W} {ws : List W} (rel : Rel K mg G α O H) (r : Rv K G α v x) (h : asS x O = some ws) : ∃ a vs, v = .ref a ∧ (SqL K H a vs ∨ SqT K H a vs) ∧ RvL K G α vs ws := by
  unfold asS at h
  split at h
  · cases h
    cases r with
    | lst hs ha => exact ⟨_, _, rfl, .inl (SqL.of (rel.ex _ _ hs)), RvL.ofD ha⟩
  · cases h
    cases r with
    | tup hs td ha => exact ⟨_, _, rfl, .inr (rel.ex.sqT hs), RvL.ofD ha⟩
  · cases h
    cases r with
    | scr ns hs => exact ⟨_, _, rfl, .inl (rel.ex.sqL hs), RvL.ofD (RpL.ints ns)⟩
    | dk hg hk =>
      cases hk with
      | @cons k _ _ _ _ _ e _ _ _ => cases k <;> cases e
  · cases h
    obtain ⟨a, vs, rfl, hs, ha⟩ := r
    exact ⟨_, _, rfl, .inr (rel.ex.sqT hs), RvL.ofD ha⟩
  · cases h
    obtain ⟨ok, a, rfl, hs⟩ := r
    refine ⟨a, _, rfl, .inr (SqT.of (rel.ex _ _ hs)), ?_⟩
    have z := RvL.ofD (α := α) (RpL.keys (K := K) (G := G) ok)
    rwa [List.map_map] at z
  · cases h
    obtain ⟨a, vs, rfl, hs, hr⟩ := r
    exact ⟨a, vs, rfl, .inr (SqT.of (rel.ex _ _ hs)), RiL.rv hr⟩
  · next O' j =>
    split at h
    · next ws' e =>
      cases h
      obtain ⟨a, ha, rfl⟩ := r
      obtain ⟨_, vs, hH, rl⟩ := rel.at_ j a _ ha e
      exact ⟨a, vs, rfl, .inl (SqL.of hH), rl⟩
    · cases h
  · cases h
end
/-- what may be laid as data: x or a cell's list -/
def asD : W → Oh → Option PyData
  | .d x, _ => some x
  | .c j, O => match O[j]? with
    | some (.lst ws) => match datas ws with
      | some ds => some (.list ds)
      | none => none
    | _ => none
  | .k ks, _ => some (.tuple (ks.map keyD))
  | .p ds, _ => some (.tuple ds)
  | _, _ => none
/-- data without dicts, not too deep -/
def shp : Nat → PyData → Bool
  | _, .none => true
  | _, .bool _ => true
  | _, .int _ => true
  | _, .str _ => true
  | n + 1, .list ds => ds.all (shp n)
  | n + 1, .tuple ds => ds.all (shp n)
  | _, _ => false
section
variable {K : Fg} {mg : Str → Option Value} {G : Hp} {α : Al} {O : Oh} {H : Hp}
mutual
theorem shp_depth : ∀ (n : Nat) (d : PyData), shp n d = true → d.depth ≤ n
  | n, .none, _ => by simp [PyData.depth]
  | n, .bool _, _ => by simp [PyData.depth]
  | n, .int _, _ => by simp [PyData.depth]
  | n, .str _, _ => by simp [PyData.depth]
  | 0, .list ds, h => by cases h
  | n + 1, .list ds, h => by
    have := shp_depths n ds h
    simp only [PyData.depth]
    omega
  | 0, .tuple ds, h => by cases h
  | n + 1, .tuple ds, h => by
    have := shp_depths n ds h
    simp only [PyData.depth]
    omega
  | 0, .dict _, h => by cases h
  | n + 1, .dict _, h => by cases h
theorem shp_depths : ∀ (n : Nat) (ds : List PyData), ds.all (shp n) = true → PyData.depthAll ds ≤ n
  | n, [], _ => by simp [PyData.depthAll]
  | n, d :: ds, h => by
    rw [List.all_cons, Bool.and_eq_true] at h
    have h1 := shp_depth n d h.1
    have h2 := shp_depths n ds h.2
    simp only [PyData.depthAll]
    omega
end
mutual
theorem rp_lay : ∀ (n : Nat) (d : PyData) {v : V}, Rp K G v d → shp n d = true → d.canLay0 = true
  | n, .none, _, _, _ => by simp [PyData.canLay0]
  | n, .bool _, _, _, _ => by simp [PyData.canLay0]
  | n, .int _, _, _, _ => by simp [PyData.canLay0]
  | n, .str _, _, r, _ => by cases r with | str _ h => simpa [PyData.canLay0] using h
  | 0, .list ds, _, _, h => by cases h
  | n + 1, .list ds, _, r, h => by
    cases r with | lst hs ha => simpa only [PyData.canLay0] using rp_lays n ds ha h
  | 0, .tuple ds, _, _, h => by cases h
  | n + 1, .tuple ds, _, r, h => by
    cases r with | tup hs td ha => simpa only [PyData.canLay0] using rp_lays n ds ha h
  | 0, .dict _, _, _, h => by cases h
  | n + 1, .dict _, _, _, h => by cases h
theorem rp_lays : ∀ (n : Nat) (ds : List PyData) {vs : List V}, RpL K G vs ds → ds.all (shp n) = true → PyData.canLayAll0 ds = true
  | n, [], _, _, _ => by simp [PyData.canLayAll0]
  | n, d :: ds, _, r, h => by
    rw [List.all_cons, Bool.and_eq_true] at h
    cases r with
    | cons r1 r2 =>
      simp only [PyData.canLayAll0, Bool.and_eq_true]
      exact ⟨rp_lay n d r1 h.1, rp_lays n ds r2 h.2⟩
end
mutual
theorem rp_dp : ∀ (n : Nat) (d : PyData) {v : V}, Ex G H → Rp K G v d → shp n d = true → Dp K H v d
  | n, .none, _, _, r, _ => by cases r; exact .non
  | n, .bool _, _, _, r, _ => by cases r; exact .bl _
  | n, .int _, _, _, r, _ => by cases r; exact .int _
  | n, .str _, _, _, r, _ => by cases r; exact .str _
  | 0, .list ds, _, _, _, h => by cases h
  | n + 1, .list ds, _, e, r, h => by
    cases r with | lst hs ha => exact .lst (SqL.of (e _ _ hs)) (rp_dps n ds e ha h)
  | 0, .tuple ds, _, _, _, h => by cases h
  | n + 1, .tuple ds, _, e, r, h => by
    cases r with | tup hs td ha => exact .tup (e.sqT hs) (rp_dps n ds e ha h)
  | 0, .dict _, _, _, _, h => by cases h
  | n + 1, .dict _, _, _, _, h => by cases h
theorem rp_dps : ∀ (n : Nat) (ds : List PyData) {vs : List V}, Ex G H → RpL K G vs ds → ds.all (shp n) = true → DpAll K H vs ds
  | n, [], _, _, r, _ => by cases r; exact .nil
  | n, d :: ds, _, e, r, h => by
    rw [List.all_cons, Bool.and_eq_true] at h
    cases r with
    | cons r1 r2 => exact .cons (rp_dp n d e r1 h.1) (rp_dps n ds e r2 h.2)
end
theorem shp_keys (n : Nat) : ∀ ks : List Key, (ks.map keyD).all (shp n) = true
  | [] => rfl
  | .inl i :: r => by rw [List.map_cons, List.all_cons, shp_keys n r]; cases n <;> rfl
  | .inr i :: r => by rw [List.map_cons, List.all_cons, shp_keys n r]; cases n <;> rfl
theorem shaped_of {n : Nat} {d : PyData} (hn : n ≤ 64) (h1 : d.canLay0 = true) (h2 : shp n d = true) : SeqAt.shaped d = true := by
  unfold SeqAt.shaped
  rw [h1, Bool.true_and]
  exact decide_eq_true (Nat.le_trans (shp_depth n d h2) hn)
theorem asD_ok {v : V} {x : W} {d : PyData} (rel : Rel K mg G α O H) (r : Rv K G α v x) (h : asD x O = some d) (hs : shp 40 d = true) : Dp K H v d ∧ SeqAt.shaped d = true := by
  unfold asD at h
  split at h
  · cases h
    exact ⟨rp_dp 40 _ rel.ex r hs, shaped_of (n := 40) (by decide) (rp_lay 40 _ r hs) hs⟩
  · next O' j =>
    split at h
    · next ws e =>
      split at h
      · next ds ed =>
        cases h
        obtain ⟨a, ha, rfl⟩ := r
        obtain ⟨_, vs, hH, rl⟩ := rel.at_ j a _ ha e
        rw [datas_eq ed] at rl
        have rd := rl.toD
        have hs' : ds.all (shp 39) = true := hs
        exact ⟨.lst (SqL.of hH) (rp_dps 39 _ rel.ex rd hs'), shaped_of (n := 40) (by decide) (by simpa only [PyData.canLay0] using rp_lays 39 ds rd hs') hs⟩
      · cases h
    · cases h
  · next O' ks =>
    cases h
    obtain ⟨ok, a, rfl, ht⟩ := r
    have rd := RpL.keys (K := K) (G := G) ok
    exact ⟨.tup (rel.ex.sqT (SqT.of ht)) (rp_dps 39 _ rel.ex rd (shp_keys 39 ks)), shaped_of (n := 40) (by decide) (by simpa only [PyData.canLay0] using rp_lays 39 _ rd (shp_keys 39 ks)) hs⟩
  · next O' ds =>
    cases h
    obtain ⟨a, vs, rfl, ht, rd⟩ := r
    have hs' : ds.all (shp 39) = true := hs
    exact ⟨.tup (rel.ex.sqT ht) (rp_dps 39 _ rel.ex rd hs'), shaped_of (n := 40) (by decide) (by simpa only [PyData.canLay0] using rp_lays 39 ds rd hs') hs⟩
  · cases h
end
/-! #### operators -/
theorem or_op {X : Cx} {f : Value → Value → Sem Value} {r r' : R2} (h : OpR X f r) (h' : OpR X f r') : OpR X f (fun x y H Q => r x y H Q ∨ r' x y H Q) := by
  intro pins s σ H x y v u Q I rx ry q
  rcases q with q | q
  · exact h pins s σ H x y v u Q I rx ry q
  · exact h' pins s σ H x y v u Q I rx ry q
def dAdd : D2 := fun x y O R => match x, y with
  | .d (.int i), .d (.int j) => R (.d (.int (i + j))) O
  | .d (.str i), .d (.str j) => i.length + j.length ≤ 1000000 ∧ R (.d (.str (i ++ j))) O
  | .d (.tuple xs), .d (.tuple ys) => xs.length + ys.length ≤ 1000000 ∧ R (.d (.tuple (xs ++ ys))) O
  | .d (.list xs), .d (.list ys) => xs.length + ys.length ≤ 1000000 ∧ R (.d (.list (xs ++ ys))) O
  | x, y => match asL x O, asL y O with
    | some xs, some ys => match datas xs, datas ys with
      | some ds, some es => ds.length + es.length ≤ 1000000 ∧ R (.d (.list (ds ++ es))) O
      | _, _ => False
    | _, _ => False
def rAdd4 (K : Fg) : R2 := fun x y H Q => (∃ i j, x = .int i ∧ y = .int j ∧ Q (.int (i + j)) H) ∨ (∃ i j, x = .str i ∧ y = .str j ∧ i.length + j.length ≤ sizeLine ∧ Q (.str (i ++ j)) H) ∨ rCatF K x y H Q ∨ rCat x y H Q
theorem op_add4 {X : Cx} : OpR X (binaryOp .Add) (rAdd4 X.K) := or_op op_add (or_op op_add_str (or_op op_catF op_cat))
theorem strOk_append {a b : Str} (ha : PyData.strOk a = true) (hb : PyData.strOk b = true) : PyData.strOk (a ++ b) = true := by
  unfold PyData.strOk at ha hb ⊢
  have e : (a ++ b).cps = a.cps ++ b.cps := rfl
  rw [e, Array.all_append, ha, hb]
  rfl
section
variable {K : Fg} {mg : Str → Option Value}
theorem cat_ok {G : Hp} {α : Al} {O : Oh} {H : Hp} {x y : W} {u v : V} {ds es : List PyData} {R : DK} {Q : VK} (rel : Rel K mg G α O H) {xs ys : List W} (r1 : Rv K G α u x) (r2 : Rv K G α v y) (h1 : asL x O = some xs) (h2 : asL y O = some ys)
    (e1 : datas xs = some ds) (e2 : datas ys = some es) (hz : ds.length + es.length ≤ 1000000) (q : R (.d (.list (ds ++ es))) O) (p : Post K mg G α R Q) : rCat u v H Q := by
  obtain ⟨a, vs, rfl, ha, ra⟩ := asL_ok rel r1 h1
  obtain ⟨b, us, rfl, hb, rb⟩ := asL_ok rel r2 h2
  rw [datas_eq e1] at ra
  rw [datas_eq e2] at rb
  have la := ra.toD.length
  have lb := rb.toD.length
  refine ⟨a, b, vs, us, rfl, rfl, ha, hb, by rw [la, lb]; exact szl hz, fun l hl => ?_⟩
  have ge := rel.ex.free hl
  exact p.lay q rel hl (.lst upd_same ((ra.toD.append rb.toD).mono (Ex.new ge)))
theorem s_add : OpS K mg dAdd (rAdd4 K) := by
  intro G α O H x y u v R Q rel r1 r2 h p
  unfold dAdd at h
  split at h
  · cases r1
    cases r2
    exact .inl ⟨_, _, rfl, rfl, p.here h rel (.int _)⟩
  · cases r1 with
    | str _ o1 =>
      cases r2 with
      | str _ o2 => exact .inr (.inl ⟨_, _, rfl, rfl, szl h.1, p.here h.2 rel (.str _ (strOk_append o1 o2))⟩)
  · cases r1 with
    | tup h1 t1 a1 =>
      cases r2 with
      | tup h2 t2 a2 =>
        have l1 := a1.length
        have l2 := a2.length
        refine .inr (.inr (.inl ⟨_, _, _, _, rfl, rfl, rel.ex.sqT h1, rel.ex.sqT h2, by rw [l1, l2]; exact szl h.1, fun z => ?_, fun _ z => ?_, fun _ _ l ob hl hd => p.layF h.2 rel hl hd (a1.append a2)⟩))
        · subst z
          cases a1
          exact p.here h.2 rel (.tup h2 t2 a2)
        · subst z
          cases a2
          have h3 := h.2
          rw [List.append_nil] at h3
          exact p.here h3 rel (.tup h1 t1 a1)
  · next xs ys => exact .inr (.inr (.inr (cat_ok rel r1 r2 (xs := xs.map W.d) (ys := ys.map W.d) rfl rfl (datas_map _) (datas_map _) h.1 h.2 p)))
  · split at h
    · next xs ys e1 e2 =>
      split at h
      · next ds es d1 d2 => exact .inr (.inr (.inr (cat_ok rel r1 r2 e1 e2 d1 d2 h.1 h.2 p)))
      · exact h.elim
    · exact h.elim
/-! ints -/
def dI2 (C : Int → Int → Prop) (g : Int → Int → PyData) : D2 := fun x y O R => match x, y with
  | .d (.int i), .d (.int j) => C i j ∧ R (.d (g i j)) O
  | _, _ => False
def dI20 (g : Int → Int → PyData) : D2 := fun x y O R => match x, y with
  | .d (.int i), .d (.int j) => R (.d (g i j)) O
  | _, _ => False
theorem s_I2 {C : Int → Int → Prop} {g : Int → Int → PyData} {gv : Int → Int → V} (hg : ∀ i j G, Rp K G (gv i j) (g i j)) : OpS K mg (dI2 C g) (rI C gv) := by
  intro G α O H x y u v R Q rel r1 r2 h p
  unfold dI2 at h
  split at h
  · cases r1
    cases r2
    exact ⟨_, _, rfl, rfl, h.1, p.here h.2 rel (hg _ _ _)⟩
  · exact h.elim
theorem s_I20 {g : Int → Int → PyData} {gv : Int → Int → V} (hg : ∀ i j G, Rp K G (gv i j) (g i j)) : OpS K mg (dI20 g) (rI0 gv) := by
  intro G α O H x y u v R Q rel r1 r2 h p
  unfold dI20 at h
  split at h
  · cases r1
    cases r2
    exact ⟨_, _, rfl, rfl, p.here h rel (hg _ _ _)⟩
  · exact h.elim
abbrev dSub : D2 := dI20 fun i j => .int (i - j)
theorem s_sub : OpS K mg dSub (rI0 fun i j => .int (i - j)) := s_I20 fun _ _ _ => .int _
abbrev dMul : D2 := dI2 CMul fun i j => .int (i * j)
theorem s_mul : OpS K mg dMul (rI CMul fun i j => .int (i * j)) := s_I2 fun _ _ _ => .int _
abbrev dMod : D2 := dI2 (fun _ j => 0 < j) fun i j => .int (i % j)
theorem s_mod : OpS K mg dMod (rI (fun _ j => 0 < j) fun i j => .int (i % j)) := s_I2 fun _ _ _ => .int _
abbrev dDiv : D2 := dI2 CDivW fun i j => .int (i / j)
theorem s_div : OpS K mg dDiv (rI CDivW fun i j => .int (i / j)) := s_I2 fun _ _ _ => .int _
abbrev dPow : D2 := dI2 CPow fun i j => .int (i ^ j.toNat)
theorem s_pow : OpS K mg dPow (rI CPow fun i j => .int (i ^ j.toNat)) := s_I2 fun _ _ _ => .int _
abbrev dLe : D2 := dI20 fun i j => .bool (decide (i ≤ j))
theorem s_le : OpS K mg dLe (rI0 fun i j => .bl (decide (i ≤ j))) := s_I20 fun _ _ _ => .bl _
/-! == and != -/
def dEq : D2 := fun x y O R => match asD x O, asD y O with
  | some d, some e => shp 40 d = true ∧ shp 40 e = true ∧ R (.d (.bool (PyData.eqv d e))) O
  | _, _ => False
def dNe : D2 := fun x y O R => match asD x O, asD y O with
  | some d, some e => shp 40 d = true ∧ shp 40 e = true ∧ R (.d (.bool (!PyData.eqv d e))) O
  | _, _ => False
theorem s_eq : OpS K mg dEq (rEqD K) := by
  intro G α O H x y u v R Q rel r1 r2 h p
  unfold dEq at h
  split at h
  · next d e e1 e2 =>
    obtain ⟨d1, s1⟩ := asD_ok rel r1 e1 h.1
    obtain ⟨d2, s2⟩ := asD_ok rel r2 e2 h.2.1
    exact ⟨d, e, d1, d2, s1, s2, p.here h.2.2 rel (.bl _)⟩
  · exact h.elim
theorem s_ne : OpS K mg dNe (rNeD K) := by
  intro G α O H x y u v R Q rel r1 r2 h p
  unfold dNe at h
  split at h
  · next d e e1 e2 =>
    obtain ⟨d1, s1⟩ := asD_ok rel r1 e1 h.1
    obtain ⟨d2, s2⟩ := asD_ok rel r2 e2 h.2.1
    exact ⟨d, e, d1, d2, s1, s2, p.here h.2.2 rel (.bl _)⟩
  · exact h.elim
/-! is None -/
def isNone : W → Bool
  | .d .none => true
  | _ => false
end
end Dl
namespace Dl
open PySem PySem.Spec PyProof.Rows L2
variable [TabsC]
/-! #### subscripts -/
def dIx : D2 := fun x y O R => match x, y with
  | .d (.str s), .d (.int i) => s.length ≤ 1000000 ∧ (match atI s.cps.toList i with
    | some c => R (.d (.str ⟨#[c]⟩)) O
    | none => False)
  | x, .d (.int i) => (match asS x O with
    | some ws => (match atI ws i with
      | some w => R w O
      | none => False)
    | none => False)
  | _, _ => False
theorem strOk_one {s : Str} {i : Int} {c : Nat} (h : PyData.strOk s = true) (e : atI s.cps.toList i = some c) : PyData.strOk ⟨#[c]⟩ = true := by
  obtain ⟨j, _, hj, _⟩ := atI_get e
  have hm : c ∈ s.cps.toList := List.mem_of_getElem? hj
  unfold PyData.strOk at h ⊢
  rw [Array.all_eq_true] at h
  have hc : c < 0x110000 := by
    obtain ⟨n, hn, e⟩ := List.getElem_of_mem hm
    have := h n (by simpa using hn)
    rw [← e]
    simpa using this
  simp [hc]
theorem paired_atI {α β : Type} {F : α → β → Prop} {xs : List α} {ys : List β} {i : Int} {y : β} (r : Paired F xs ys) (h : atI ys i = some y) (get : ∀ j : Nat, ys[j]? = some y → ∃ x, xs[j]? = some x ∧ F x y) : ∃ x, atI xs i = some x ∧ F x y := by
  have hl := Paired.length r
  unfold atI at h ⊢
  rw [hl]
  cases e : ixN ys.length i with
  | none => rw [e] at h; cases h
  | some j =>
    rw [e] at h
    exact get j h
section
variable {K : Fg} {mg : Str → Option Value}
theorem s_ix : OpS K mg dIx (rIx K) := by
  intro G α O H x y u v R Q rel r1 r2 h p
  unfold dIx at h
  split at h
  · cases r2
    cases r1 with
    | str s ok =>
      obtain ⟨hz, h⟩ := h
      split at h
      · next c e => exact .inr (.inr ⟨_, _, _, rfl, rfl, szl hz, e, p.here h rel (.str _ (strOk_one ok e))⟩)
      · exact h.elim
  · cases r2
    split at h
    · next ws e =>
      split at h
      · next w ew =>
        obtain ⟨a, vs, rfl, hs, rl⟩ := asS_ok rel r1 e
        obtain ⟨z, hz, rz⟩ := paired_atI rl ew fun j q => rl.get q
        rcases hs with hs | hs
        · exact .inl ⟨a, vs, _, z, rfl, rfl, hs, hz, p.here h rel rz⟩
        · exact .inr (.inl ⟨a, vs, _, z, rfl, rfl, hs, hz, p.here h rel rz⟩)
      · exact h.elim
    · exact h.elim
  · exact h.elim
variable {X : Cx} {Wx : WX} {k : Nat} {a b c e : Expr} {wa wb wc we : DEx} {pos p2 : Pos} {es : List Expr} {ws : DA}
/-! #### slices -/
abbrev DO := Gm → Oh → (Option Int → Oh → Prop) → DX → Prop
def PostO (K : Fg) (mg : Str → Option Value) (G : Hp) (α : Al) (R : Option Int → Oh → Prop) (Q : Option Int → Hp → Prop) : Prop := ∀ r O', R r O' → ∀ G' α' H', Ex G G' → Pre α α' → Rel K mg G' α' O' H' → Q r H'
def liftO (K : Fg) (mg : Str → Option Value) (Wx : WX) (w : DO) : TO := fun σ H Q => ∃ G α Γ O R xe, Sl K G α Γ σ ∧ Rel K mg G α O H ∧ w Γ O R xe ∧ PostO K mg G α R Q ∧ XPost K mg G α xe Wx
def DOp (X : Cx) (Wx : WX) (e : Option Expr) (w : DO) : Prop := PO X e (liftO X.K X.mg Wx w)
def dO0 : DO := fun _ O R _ => R none O
def dO1 (w : DEx) : DO := fun Γ O R xe => w Γ O (fun x O1 => match x with
  | .d (.int i) => R (some i) O1
  | _ => False) xe
theorem do_none : DOp X Wx none dO0 := ⟨fun pins s σ H Q I h => by
  obtain ⟨G, α, Γ, O, R, xe, sl, rel, h, p, xp⟩ := h
  exact (po_none (X := X)).run pins s σ H Q I (p _ _ h _ _ _ (Ex.refl _) (Pre.refl _) rel)⟩
theorem do_some (he : DE X Wx e we) : DOp X Wx (some e) (dO1 we) := ⟨fun pins s σ H Q I h => by
  obtain ⟨G, α, Γ, O, R, xe, sl, rel, h, p, xp⟩ := h
  refine (po_some he).run pins s σ H Q I ⟨G, α, Γ, O, _, xe, sl, rel, h, fun x O1 h1 v G1 α1 H1 e1 p1 rel1 r1 => ?_, xp⟩
  dsimp only at h1
  split at h1
  · cases r1
    exact ⟨_, rfl, p _ _ h1 _ _ _ e1 p1 rel1⟩
  · exact h1.elim⟩
/-- the part of a list -/
def cutL {α : Type} (xs : List α) (lo hi : Option Int) : List α := (xs.drop (HT.sIx xs.length 0 lo)).take (HT.sIx xs.length xs.length hi - HT.sIx xs.length 0 lo)
theorem cutL_all {α : Type} {xs : List α} {lo hi : Option Int} (h0 : HT.sIx xs.length 0 lo = 0) (h1 : HT.sIx xs.length xs.length hi = xs.length) : cutL xs lo hi = xs := by
  unfold cutL
  rw [h0, h1, List.drop_zero, Nat.sub_zero, List.take_length]
def dSl (x : W) (lo hi : Option Int) (O : Oh) (R : DK) : Prop := match x with
  | .d (.str s) => s.length ≤ 1000000 ∧ R (.d (.str (cutS s lo hi))) O
  | .d (.tuple ds) => R (.d (.tuple (cutL ds lo hi))) O
  | .d (.list ds) => R (.d (.list (cutL ds lo hi))) O
  | x => match asL x O with
    | some ws => match datas ws with
      | some ds => R (.d (.list (cutL ds lo hi))) O
      | none => False
    | none => False
def dSlice (wo : DEx) (wl wh : DO) : DEx := fun Γ O R xe => wo Γ O (fun x O1 => wl Γ O1 (fun lo O2 => wh Γ O2 (fun hi O3 => dSl x lo hi O3 R) xe) xe) xe
theorem strOk_cut {s : Str} {lo hi : Option Int} (h : PyData.strOk s = true) : PyData.strOk (cutS s lo hi) = true := by
  unfold PyData.strOk at h ⊢
  rw [Array.all_eq_true] at h
  have hall : ∀ c ∈ s.cps.toList, c < 0x110000 := fun c hm => by
    obtain ⟨n, hn, e⟩ := List.getElem_of_mem hm
    have := h n (by simpa using hn)
    rw [← e]
    simpa using this
  unfold cutS
  rw [← Array.all_toList]
  rw [List.all_eq_true]
  intro c hc
  have hc' : c ∈ s.cps.toList := by
    exact List.mem_of_mem_drop (List.mem_of_mem_take hc)
  exact decide_eq_true (hall c hc')
theorem de_slice {lo hi : Option Expr} {wl wh : DO} (he : DE X Wx e we) (hl : DOp X Wx lo wl) (hh : DOp X Wx hi wh) : DE X Wx (.Subscript e (.Slice lo hi none p2) pos) (dSlice we wl wh) := by
  refine pe_imp (fun σ H Q ⟨G, α, Γ, O, R, xe, sl, rel, h, p, xp⟩ => ?_) (pe_slice (SlR.or sl_str (SlR.or sl_tupF sl_list)) he hl hh)
  refine ⟨G, α, Γ, O, _, xe, sl, rel, h, fun x O1 h1 v G1 α1 H1 e1 p1 rel1 r1 => ?_, xp⟩
  refine ⟨G1, α1, Γ, O1, _, xe, sl.mono e1 p1, rel1, h1, fun lo O2 h2 G2 α2 H2 e2 p2 rel2 => ?_, xp.mono e1 p1⟩
  refine ⟨G2, α2, Γ, O2, _, xe, sl.mono (e1.trans e2) (p1.trans p2), rel2, h2, fun hi O3 h3 G3 α3 H3 e3 p3 rel3 => ?_, xp.mono (e1.trans e2) (p1.trans p2)⟩
  have r3 := r1.mono (e2.trans e3) (p2.trans p3)
  have pp := p.mono (e1.trans (e2.trans e3)) (p1.trans (p2.trans p3))
  unfold dSl at h3
  split at h3
  · cases r3 with
    | str s ok => exact .inl ⟨_, rfl, szl h3.1, pp.here h3.2 rel3 (.str _ (strOk_cut ok))⟩
  · cases r3 with
    | tup hs td ha =>
      have hl := ha.length
      refine .inr (.inl ⟨_, _, rfl, rel3.ex.sqT hs, fun ⟨z1, z2⟩ => ?_, fun _ q ob hq hd => pp.layF h3 rel3 hq hd ?_⟩)
      · rw [hl] at z1 z2
        rw [cutL_all z1 z2] at h3
        exact pp.here h3 rel3 (.tup hs td ha)
      · unfold cutL
        rw [← hl]
        exact (ha.drop _).take _
  · cases r3 with
    | lst hs ha =>
      have hl := ha.length
      refine .inr (.inr ⟨_, _, rfl, SqL.of (rel3.ex _ _ hs), fun q hq => pp.lay h3 rel3 hq (.lst upd_same ?_)⟩)
      unfold cutL
      rw [← hl]
      exact ((ha.drop _).take _).mono (Ex.new (rel3.ex.free hq))
  · split at h3
    · next ws ew =>
      split at h3
      · next ds ed =>
        obtain ⟨a, vs, rfl, hs, rl⟩ := asL_ok rel3 r3 ew
        rw [datas_eq ed] at rl
        have ha := rl.toD
        have hl := ha.length
        refine .inr (.inr ⟨_, _, rfl, SqL.of hs, fun q hq => pp.lay h3 rel3 hq (.lst upd_same ?_)⟩)
        unfold cutL
        rw [← hl]
        exact ((ha.drop _).take _).mono (Ex.new (rel3.ex.free hq))
      · exact h3.elim
    · exact h3.elim
/-- xs[::-1] -/
def dRevL (we : DEx) : DEx := fun Γ O R xe => we Γ O (fun x O1 => match asL x O1 with
  | some ws => (match datas ws with
    | some ds => R (.d (.list ds.reverse)) O1
    | none => False)
  | none => False) xe
/-! #### in -/
def strIn (a b : Str) : Bool := !(Builtin.Str.occurrences b a 0 b.length 1).isEmpty
def rInS2 (neg : Bool) : R2 := fun x y H Q => ∃ i j, x = .str i ∧ y = .str j ∧ Q (.bl (if neg then !strIn i j else strIn i j)) H
/-! #### calls of built-ins by value -/
abbrev DC := List W → Oh → DK → Prop
def CallS (K : Fg) (mg : Str → Option Value) (f : DC) (r : List V → Hp → VK → Prop) : Prop := ∀ G α O H xs vs R Q, Rel K mg G α O H → RvL K G α vs xs → f xs O R → Post K mg G α R Q → r vs H Q
def dCB (f : DC) (ws : DA) : DEx := fun Γ O R xe => ws Γ O (fun xs O1 => f xs O1 R) xe
theorem lift_cb {f : DC} {r : List V → Hp → VK → Prop} (hs : CallS K mg f r) {σ : L2.St} {H : Hp} {Q : VK} (h : liftE K mg Wx (dCB f ws) σ H Q) : tCB r (liftA K mg Wx ws) σ H Q := by
  obtain ⟨G, α, Γ, O, R, xe, sl, rel, h, p, xp⟩ := h
  exact ⟨G, α, Γ, O, _, xe, sl, rel, h, fun x O1 h1 v G1 α1 H1 e1 p1 rel1 r1 => hs _ _ _ _ _ _ _ _ rel1 r1 h1 (p.mono e1 p1), xp⟩
variable {x : Str} {p : Pos}
theorem de_callB {id : String} {f : DC} {r : List V → Hp → VK → Prop} (hc : CallR X (.builtin id) r) (hs : CallS X.K X.mg f r) (hm : X.mg x = none) (hv : bootBuiltins x = some (.builtin id)) (ha : DAs X Wx (e :: es) ws) (hg : Gl X x := by rfl) (hn : x ≠ "__name__" := by decide) (hdb : (x == ("__debug__" : Str)) = false := by decide)
    (he : starEach (e :: es) X.env = (false, eval e X.env) :: starEach es X.env := by rfl) (hpl : (backTo pos (starEach es X.env)).any (·.1) = false := by rfl) : DE X Wx (.Call (.Name x p) (e :: es) [] pos) (dCB f ws) :=
  pe_imp (fun _ _ _ h => lift_cb hs h) (pe_callB hc hg hm hv ha hn hdb he hpl)
theorem de_callTy {T : String} {f : DC} {r : List V → Hp → VK → Prop} (hc : CallR X (.type T) r) (hs : CallS X.K X.mg f r) (hm : X.mg x = none) (hv : bootBuiltins x = some (.type T)) (ha : DAs X Wx (e :: es) ws) (hg : Gl X x := by rfl) (hn : x ≠ "__name__" := by decide) (hdb : (x == ("__debug__" : Str)) = false := by decide)
    (he : starEach (e :: es) X.env = (false, eval e X.env) :: starEach es X.env := by rfl) (hpl : (backTo pos (starEach es X.env)).any (·.1) = false := by rfl) : DE X Wx (.Call (.Name x p) (e :: es) [] pos) (dCB f ws) :=
  pe_imp (fun _ _ _ h => lift_cb hs h) (pe_callTy hc hg hm hv ha hn hdb he hpl)
theorem or_call {f : Value} {r r' : List V → Hp → VK → Prop} (h : CallR X f r) (h' : CallR X f r') : CallR X f (fun xs H Q => r xs H Q ∨ r' xs H Q) := by
  intro pins s σ H xs us Q I rs q
  rcases q with q | q
  · exact h pins s σ H xs us Q I rs q
  · exact h' pins s σ H xs us Q I rs q
theorem rv1 {G : Hp} {α : Al} {vs : List V} {w : W} (h : RvL K G α vs [w]) : ∃ v, vs = [v] ∧ Rv K G α v w := by
  cases h with
  | cons r t => cases t; exact ⟨_, rfl, r⟩
theorem rv2 {G : Hp} {α : Al} {vs : List V} {w z : W} (h : RvL K G α vs [w, z]) : ∃ v u, vs = [v, u] ∧ Rv K G α v w ∧ Rv K G α u z := by
  cases h with
  | cons r t => cases t with | cons r' t => cases t; exact ⟨_, _, rfl, r, r'⟩
def rLen3 (K : Fg) : List V → Hp → VK → Prop := fun xs H Q => (∃ p ys, xs = [.ref p] ∧ (SqL K H p ys ∨ SqT K H p ys) ∧ Q (.int ys.length) H) ∨ (∃ z, xs = [.str z] ∧ z.length ≤ sizeLine ∧ Q (.int z.length) H)
theorem call_len3 : CallR X (.builtin "len") (rLen3 X.K) := or_call call_len_seq call_len_str
def dLen : DC := fun xs O R => match xs with
  | [.d (.str s)] => s.length ≤ 1000000 ∧ R (.d (.int (s.length : Nat))) O
  | [x] => (match asS x O with
    | some ws => R (.d (.int (ws.length : Nat))) O
    | none => False)
  | _ => False
theorem s_len : CallS K mg dLen (rLen3 K) := by
  intro G α O H xs vs R Q rel r h p
  unfold dLen at h
  split at h
  · obtain ⟨v, rfl, rv⟩ := rv1 r
    cases rv
    exact .inr ⟨_, rfl, szl h.1, p.here h.2 rel (.int _)⟩
  · obtain ⟨v, rfl, rv⟩ := rv1 r
    split at h
    · next ws ew =>
      obtain ⟨a, vs, rfl, hs, rl⟩ := asS_ok rel rv ew
      refine .inl ⟨a, vs, rfl, hs, ?_⟩
      rw [rl.len]
      exact p.here h rel (.int _)
    · exact h.elim
  · exact h.elim
def dAbs : DC := fun xs O R => match xs with
  | [.d (.int i)] => R (.d (.int (if i < 0 then -i else i))) O
  | _ => False
theorem s_abs : CallS K mg dAbs (fun xs H Q => ∃ i, xs = [.int i] ∧ Q (.int (if i < 0 then -i else i)) H) := by
  intro G α O H xs vs R Q rel r h p
  unfold dAbs at h
  split at h
  · obtain ⟨v, rfl, rv⟩ := rv1 r
    cases rv
    exact ⟨_, rfl, p.here h rel (.int _)⟩
  · exact h.elim
def dMax : DC := fun xs O R => match xs with
  | [.d (.int i), .d (.int j)] => R (.d (.int (if j > i then j else i))) O
  | _ => False
theorem s_max : CallS K mg dMax (fun xs H Q => ∃ i j, xs = [.int i, .int j] ∧ Q (.int (if j > i then j else i)) H) := by
  intro G α O H xs vs R Q rel r h p
  unfold dMax at h
  split at h
  · obtain ⟨v, u, rfl, rv, ru⟩ := rv2 r
    cases rv; cases ru
    exact ⟨_, _, rfl, p.here h rel (.int _)⟩
  · exact h.elim
def dMin : DC := fun xs O R => match xs with
  | [.d (.int i), .d (.int j)] => R (.d (.int (if j < i then j else i))) O
  | _ => False
theorem s_min : CallS K mg dMin (fun xs H Q => ∃ i j, xs = [.int i, .int j] ∧ Q (.int (if j < i then j else i)) H) := by
  intro G α O H xs vs R Q rel r h p
  unfold dMin at h
  split at h
  · obtain ⟨v, u, rfl, rv, ru⟩ := rv2 r
    cases rv; cases ru
    exact ⟨_, _, rfl, p.here h rel (.int _)⟩
  · exact h.elim
/-- tuple(x) -/
def dTupOf : DC := fun xs O R => match xs with
  | [.d (.tuple ds)] => R (.d (.tuple ds)) O
  | [x] => (match asL x O with
    | some ws => (match datas ws with
      | some ds => R (.d (.tuple ds)) O
      | none => False)
    | none => False)
  | _ => False
theorem s_tupOf : CallS K mg dTupOf (rTupOf K) := by
  intro G α O H xs vs R Q rel r h p
  unfold dTupOf at h
  split at h
  · obtain ⟨v, rfl, rv⟩ := rv1 r
    cases rv with
    | tup hs td ha => exact ⟨_, _, rfl, .inr ⟨rel.ex.sqT hs, p.here h rel (.tup hs td ha)⟩⟩
  · obtain ⟨v, rfl, rv⟩ := rv1 r
    split at h
    · next ws ew =>
      split at h
      · next ds ed =>
        obtain ⟨a, vs, rfl, hs, rl⟩ := asL_ok rel rv ew
        rw [datas_eq ed] at rl
        exact ⟨a, vs, rfl, .inl ⟨SqL.of hs, fun l ob hl hd => p.layF h rel hl hd rl.toD⟩⟩
      · exact h.elim
    · exact h.elim
  · exact h.elim
/-- list(x): one that never changes; one that will -/
def dListOf : DC := fun xs O R => match xs with
  | [x] => (match asS x O with
    | some ws => (match datas ws with
      | some ds => R (.d (.list ds)) O
      | none => False)
    | none => False)
  | _ => False
def dListC : DC := fun xs O R => match xs with
  | [x] => (match asS x O with
    | some ws => R (.c O.length) (O ++ [.lst ws])
    | none => False)
  | _ => False
def rListOf (K : Fg) : List V → Hp → VK → Prop := fun xs H Q => ∃ p ys, xs = [.ref p] ∧ (SqL K H p ys ∨ SqT K H p ys) ∧ ∀ l, H l = none → Q (.ref l) (upd H l (.lst ys))
theorem s_listC : CallS K mg dListC (rListOf K) := by
  intro G α O H xs vs R Q rel r h p
  unfold dListC at h
  split at h
  · obtain ⟨v, rfl, rv⟩ := rv1 r
    split at h
    · next ws ew =>
      obtain ⟨a, vs, rfl, hs, rl⟩ := asS_ok rel rv ew
      refine ⟨a, vs, rfl, hs, fun l hl => ?_⟩
      have rel2 := rel.cell (o := .lst vs) (c := .lst ws) hl (fun b z => by cases z) ⟨rel.ex.free hl, vs, upd_same, rl.mono (Ex.refl _) Pre.push⟩
      exact p _ _ h _ _ _ _ (Ex.refl _) Pre.push rel2 ⟨l, pre_len rel.len, rfl⟩
    · exact h.elim
  · exact h.elim
/-! all, any of truth values -/
def boolsD : List PyData → Option (List Bool)
  | [] => some []
  | .bool b :: r => match boolsD r with
    | some bs => some (b :: bs)
    | none => none
  | _ :: _ => none
theorem boolsD_eq : ∀ {ds : List PyData} {bs : List Bool}, boolsD ds = some bs → ds = bs.map PyData.bool
  | [], _, h => by cases h; rfl
  | .bool b :: r, bs, h => by
    unfold boolsD at h
    split at h
    · next q e => cases h; rw [boolsD_eq e]; rfl
    · cases h
  | .none :: _, _, h => by cases h
  | .int _ :: _, _, h => by cases h
  | .str _ :: _, _, h => by cases h
  | .list _ :: _, _, h => by cases h
  | .tuple _ :: _, _, h => by cases h
  | .dict _ :: _, _, h => by cases h
theorem rp_bools {G : Hp} : ∀ {bs : List Bool} {vs : List V}, RpL K G vs (bs.map PyData.bool) → vs = bs.map V.bl
  | [], _, r => by cases r; rfl
  | b :: bs, _, r => by
    cases r with
    | cons r1 r2 => cases r1; rw [rp_bools r2]; rfl
def dAll : DC := fun xs O R => match xs with
  | [.d (.list ds)] => (match boolsD ds with
    | some bs => R (.d (.bool (bs.all id))) O
    | none => False)
  | _ => False
def dAny : DC := fun xs O R => match xs with
  | [.d (.list ds)] => (match boolsD ds with
    | some bs => R (.d (.bool (bs.any id))) O
    | none => False)
  | _ => False
theorem s_all : CallS K mg dAll (rAll K) := by
  intro G α O H xs vs R Q rel r h p
  unfold dAll at h
  split at h
  · obtain ⟨v, rfl, rv⟩ := rv1 r
    split at h
    · next bs eb =>
      cases rv with
      | lst hs ha =>
        rw [boolsD_eq eb] at ha
        exact ⟨_, bs, rfl, by rw [← rp_bools ha]; exact SqL.of (rel.ex _ _ hs), p.here h rel (.bl _)⟩
    · exact h.elim
  · exact h.elim
end
end Dl
/-! ### set(xs) of a list of texts, any number of them, some alike -/
namespace Dl
open PySem PySem.Spec PyProof.Rows
variable [TabsC]
/-- each once, by the first time -/
def addMet (σ : List Str) (v : Str) : List Str := if σ.any (· == v) then σ else σ ++ [v]
def met (xs : List Str) : List Str := xs.foldl addMet []
theorem addMet_le (σ : List Str) (v : Str) : (addMet σ v).length ≤ σ.length + 1 := by
  unfold addMet
  split
  · omega
  · rw [List.length_append]; exact Nat.le_refl _
theorem met_le_aux (xs : List Str) : ∀ σ : List Str, (xs.foldl addMet σ).length ≤ σ.length + xs.length := by
  induction xs with
  | nil => intro σ; exact Nat.le_refl _
  | cons x r ih =>
    intro σ
    have h1 := ih (addMet σ x)
    have h2 := addMet_le σ x
    show (r.foldl addMet (addMet σ x)).length ≤ σ.length + (r.length + 1)
    omega
end Dl
namespace Dl
open PySem PySem.Spec PyProof.Rows L2
variable [TabsC]
/-! #### methods of built-ins -/
abbrev DM := W → List W → Oh → DK → Prop
def MtS (K : Fg) (mg : Str → Option Value) (f : DM) (r : V → List V → Hp → VK → Prop) : Prop := ∀ G α O H x xs v vs R Q, Rel K mg G α O H → Rv K G α v x → RvL K G α vs xs → f x xs O R → Post K mg G α R Q → r v vs H Q
def isLstW : W → Oh → Bool
  | .d (.list _), _ => true
  | .c j, O => match O[j]? with
    | some (.lst _) => true
    | _ => false
  | _, _ => false
def isStrW : W → Oh → Bool
  | .d (.str _), _ => true
  | _, _ => false
def isDicW : W → Oh → Bool
  | .c j, O => match O[j]? with
    | some (.dic _) => true
    | some (.dct _) => true
    | _ => false
  | _, _ => false
def TwS (K : Fg) (mg : Str → Option Value) (tw : W → Oh → Bool) (T : String) : Prop := ∀ G α O H x v, Rel K mg G α O H → Rv K G α v x → tw x O = true → tyV K T v H
theorem tw_list {K : Fg} {mg : Str → Option Value} : TwS K mg isLstW "list" := by
  intro G α O H x v rel r h
  cases x with
  | d x =>
    cases x <;> first | (cases h; done) | skip
    cases r with | lst hs ha => exact .inl ⟨rfl, _, SqL.of (rel.ex _ _ hs)⟩
  | c j =>
    obtain ⟨a, ha, rfl⟩ := r
    unfold isLstW at h
    dsimp only at h
    split at h
    · next ws e =>
      obtain ⟨_, vs, hH, _⟩ := rel.at_ j a _ ha e
      exact .inl ⟨rfl, _, SqL.of hH⟩
    · cases h
  | _ => cases h
def dBM (tw : W → Oh → Bool) (f : DM) (wo : DEx) (ws : DA) : DEx := fun Γ O R xe => wo Γ O (fun o O1 => tw o O1 = true ∧ ws Γ O1 (fun xs O2 => f o xs O2 R) xe) xe
section
variable {X : Cx} {Wx : WX} {k : Nat} {a b c e o : Expr} {wa wb wc we wo : DEx} {pos p2 apos cpos : Pos} {es : List Expr} {ws : DA} {T id : String} {name : Str} {f : DM} {r : V → List V → Hp → VK → Prop} {tw : W → Oh → Bool}
theorem lift_bm {K : Fg} {mg : Str → Option Value} (hs : MtS K mg f r) (ht : TwS K mg tw T) {σ : L2.St} {H : Hp} {Q : VK} (h : liftE K mg Wx (dBM tw f wo ws) σ H Q) : tBM K T r (liftE K mg Wx wo) (liftA K mg Wx ws) σ H Q := by
  obtain ⟨G, α, Γ, O, R, xe, sl, rel, h, p, xp⟩ := h
  refine ⟨G, α, Γ, O, _, xe, sl, rel, h, fun x O1 h1 v G1 α1 H1 e1 p1 rel1 r1 => ⟨ht _ _ _ _ _ _ rel1 r1 h1.1, ?_⟩, xp⟩
  exact ⟨G1, α1, Γ, O1, _, xe, sl.mono e1 p1, rel1, h1.2, fun xs O2 h2 vs G2 α2 H2 e2 p2 rel2 r2 => hs _ _ _ _ _ _ _ _ _ _ rel2 (r1.mono e2 p2) r2 h2 (p.mono (e1.trans e2) (p1.trans p2)), xp.mono e1 p1⟩
theorem de_bm (pa : PlainAttrs T) (slot : Slot T name id) (hty : typeOf (.builtin id) = pure (.type "method_descriptor")) (hm : MtR X id r) (hs : MtS X.K X.mg f r) (ht : TwS X.K X.mg tw T) (ho : DE X Wx o wo) (ha : DAs X Wx (e :: es) ws)
    (hbase : attributeBase o name X.env (eval o X.env) = eval o X.env := by rfl)
    (hfew : ((backTo cpos (starEach (e :: es) X.env)).all (fun x => !x.1) && (backToKw cpos (keywordEach [] X.env)).all (fun x => x.1.isSome)
      && decide ((e :: es).length + ([] : List Keyword).length + (if ([] : List Keyword).isEmpty then 0 else 1) < 30)) = true := by rfl)
    (hline : (apos.endLine == cpos.line) = true := by rfl) (h1 : starEach (e :: es) X.env = (false, eval e X.env) :: starEach es X.env := by rfl) (hplain : (backTo cpos (starEach es X.env)).any (·.1) = false := by rfl) :
    DE X Wx (.Call (.Attribute o name apos) (e :: es) [] cpos) (dBM tw f wo ws) := pe_imp (fun _ _ _ h => lift_bm hs ht h) (pe_bm pa slot hty hm ho ha hbase hfew hline h1 hplain)
variable {K : Fg} {mg : Str → Option Value}
/-- a cell's list is written -/
theorem Post.wr {G : Hp} {α : Al} {R : DK} {Q : VK} {x : W} {O : Oh} {H : Hp} {j : Nat} {a : Addr} {vs us : List V} {ws zs : List W} {v : V} (p : Post K mg G α R Q) (rel : Rel K mg G α O H) (ha : α.as[j]? = some a) (ej : O[j]? = some (.lst ws)) (g0 : G a = none) (hH : H a = some (.lst vs))
    (rz : RvL K G α us zs) (rx : Rv K G α v x) (q : R x (O.set j (.lst zs))) : Q v (upd H a (.lst us)) :=
  p.here q (rel.write (c := .lst zs) ha ej hH g0 (fun b z => by cases z) (fun b z => by cases z) ⟨g0, us, upd_same, rz⟩) rx
def dAppend : DM := fun x xs O R => match x, xs with
  | .c j, [y] => (match O[j]? with
    | some (.lst ws) => ws.length < 1000000 ∧ R (.d .none) (O.set j (.lst (ws ++ [y])))
    | _ => False)
  | _, _ => False
theorem s_append : MtS K mg dAppend rAppend := by
  intro G α O H x xs v vs R Q rel r1 rl h p
  unfold dAppend at h
  split at h
  · next j y =>
    split at h
    · next ws ej =>
      obtain ⟨u, rfl, ru⟩ := rv1 rl
      obtain ⟨a, ha, rfl⟩ := r1
      obtain ⟨g0, us, hH, rw'⟩ := rel.at_ j a _ ha ej
      exact ⟨a, us, u, rfl, rfl, hH, by rw [rw'.len]; exact szlt h.1, p.wr rel ha ej g0 hH (rw'.append (.cons ru .nil)) (show Rv K G α .non (.d .none) from Rp.non) h.2⟩
    · exact h.elim
  · exact h.elim
theorem RvL.eraseIdx {G : Hp} {α : Al} : ∀ {vs : List V} {ws : List W} (i : Nat), RvL K G α vs ws → RvL K G α (vs.eraseIdx i) (ws.eraseIdx i)
  | _, _, _, .nil => .nil
  | _, _, 0, .cons _ t => t
  | _, _, i + 1, .cons r t => .cons r (RvL.eraseIdx i t)
def dPopAt : DM := fun x xs O R => match x, xs with
  | .c j, [.d (.int i)] => (match O[j]? with
    | some (.lst ws) => ws.length ≤ 1000000 ∧ (match ixN ws.length i with
      | some m => (match ws[m]? with
        | some y => R y (O.set j (.lst (ws.eraseIdx m)))
        | none => False)
      | none => False)
    | _ => False)
  | _, _ => False
theorem s_popAt : MtS K mg dPopAt rPopAt := by
  intro G α O H x xs v vs R Q rel r1 rl h p
  unfold dPopAt at h
  split at h
  · next j i =>
    split at h
    · next ws ej =>
      obtain ⟨hz, h⟩ := h
      split at h
      · next m em =>
        split at h
        · next y ey =>
          obtain ⟨u, rfl, ru⟩ := rv1 rl
          cases ru
          obtain ⟨a, ha, rfl⟩ := r1
          obtain ⟨g0, us, hH, rw'⟩ := rel.at_ j a _ ha ej
          obtain ⟨s1, s2, s3, s4⟩ := ixN_seq em
          obtain ⟨z, hz', rz⟩ := rw'.get ey
          exact ⟨a, us, i, m, z, rfl, rfl, hH, by omega, by omega, by rw [rw'.len]; exact s1, hz', p.wr rel ha ej g0 hH (rw'.eraseIdx m) rz h⟩
        · exact h.elim
      · exact h.elim
    · exact h.elim
  · exact h.elim
theorem RvL.dropLast {G : Hp} {α : Al} {vs : List V} {ws : List W} (h : RvL K G α vs ws) : RvL K G α vs.dropLast ws.dropLast := by
  rw [List.dropLast_eq_take, List.dropLast_eq_take, h.len]
  exact h.take _
end
end Dl
namespace Dl
open PySem PySem.Spec PyProof.Rows L2
variable [TabsC]
/-! #### dicts: what is in one -/
section
variable {κ : Type} [DecidableEq κ]
def valW (kvs : List (κ × W)) (k : κ) : Option W := (kvs.find? fun kv => decide (kv.1 = k)).map (·.2)
def putW (kvs : List (κ × W)) (k : κ) (v : W) : List (κ × W) :=
  if (kvs.any fun kv => decide (kv.1 = k)) = true then kvs.map (fun kv => if kv.1 = k then (kv.1, v) else kv) else kvs ++ [(k, v)]
def dropW (kvs : List (κ × W)) (k : κ) : List (κ × W) := kvs.filter fun kv => decide (kv.1 ≠ k)
variable {K : Fg} {G : Hp} {α : Al}
theorem RK.len : ∀ {vs : List (κ × V)} {ws : List (κ × W)}, RK K G α vs ws → vs.length = ws.length
  | _, _, .nil => rfl
  | _, _, .cons _ t => by rw [List.length_cons, List.length_cons, RK.len t]
theorem RK.val (k : κ) : ∀ {vs : List (κ × V)} {ws : List (κ × W)}, RK K G α vs ws → (valV vs k = none ∧ valW ws k = none) ∨ ∃ v w, valV vs k = some v ∧ valW ws k = some w ∧ Rv K G α v w
  | _, _, .nil => .inl ⟨rfl, rfl⟩
  | (a, v) :: l, (b, w) :: m, .cons ⟨e, r⟩ t => by
    have e : a = b := e
    subst e
    by_cases h : a = k
    · subst h
      exact .inr ⟨v, w, valV_pos (p := (a, v)) rfl, by simp [valW, List.find?_cons], r⟩
    · have e1 : valV ((a, v) :: l) k = valV l k := valV_neg (p := (a, v)) h
      have e2 : valW ((a, w) :: m) k = valW m k := by simp [valW, List.find?_cons, h]
      rw [e1, e2]
      exact RK.val k t
theorem RK.any (k : κ) : ∀ {vs : List (κ × V)} {ws : List (κ × W)}, RK K G α vs ws → (vs.any fun kv => decide (kv.1 = k)) = (ws.any fun kv => decide (kv.1 = k))
  | _, _, .nil => rfl
  | _, _, .cons h t => by rw [List.any_cons, List.any_cons, RK.any k t, h.1]
theorem RK.app {us : List (κ × V)} {zs : List (κ × W)} (h : RK K G α us zs) : ∀ {vs : List (κ × V)} {ws : List (κ × W)}, RK K G α vs ws → RK K G α (vs ++ us) (ws ++ zs)
  | _, _, .nil => h
  | _, _, .cons q t => .cons q (RK.app h t)
theorem RK.map1 {k : κ} {v : V} {w : W} (r : Rv K G α v w) : ∀ {vs : List (κ × V)} {ws : List (κ × W)}, RK K G α vs ws → RK K G α (vs.map fun kv => if kv.1 = k then (kv.1, v) else kv) (ws.map fun kv => if kv.1 = k then (kv.1, w) else kv)
  | _, _, .nil => .nil
  | (a, x) :: _, (b, y) :: _, .cons h t => by
    refine .cons ?_ (RK.map1 r t)
    have e : a = b := h.1
    subst e
    show (if a = k then (a, v) else (a, x)).1 = (if a = k then (a, w) else (a, y)).1 ∧ Rv K G α (if a = k then (a, v) else (a, x)).2 (if a = k then (a, w) else (a, y)).2
    by_cases z : a = k
    · rw [if_pos z, if_pos z]
      exact ⟨rfl, r⟩
    · rw [if_neg z, if_neg z]
      exact h
theorem RK.put {k : κ} {v : V} {w : W} (r : Rv K G α v w) {vs : List (κ × V)} {ws : List (κ × W)} (h : RK K G α vs ws) : RK K G α (putK vs k v) (putW ws k w) := by
  unfold putK putW
  rw [h.any k]
  by_cases z : (ws.any fun kv => decide (kv.1 = k)) = true
  · rw [if_pos z, if_pos z]
    exact h.map1 r
  · rw [if_neg z, if_neg z]
    exact RK.app (.cons ⟨rfl, r⟩ .nil) h
theorem RK.drop (k : κ) : ∀ {vs : List (κ × V)} {ws : List (κ × W)}, RK K G α vs ws → RK K G α (dropK vs k) (dropW ws k)
  | _, _, .nil => .nil
  | (a, x) :: _, (b, y) :: _, .cons h t => by
    have e : a = b := h.1
    subst e
    unfold dropK dropW
    rw [List.filter_cons, List.filter_cons]
    show RK K G α (if decide (a ≠ k) = true then _ else _) (if decide (a ≠ k) = true then _ else _)
    by_cases z : decide (a ≠ k) = true
    · rw [if_pos z, if_pos z]
      exact .cons h (RK.drop k t)
    · rw [if_neg z, if_neg z]
      exact RK.drop k t
end
/-- a dict that never changes -/
def keysD : List (PyData × PyData) → Option (List (Key × W))
  | [] => some []
  | (.int i, d) :: r => match keysD r with
    | some kvs => some ((.inl i, .d d) :: kvs)
    | none => none
  | (.str x, d) :: r => match keysD r with
    | some kvs => some ((.inr x, .d d) :: kvs)
    | none => none
  | _ :: _ => none
def asDk : W → Oh → Option (List (Key × W))
  | .d (.dict kvs), _ => keysD kvs
  | .c j, O => match O[j]? with
    | some (.dic kvs) => some kvs
    | some (.ldic _ _ kvs) => some kvs
    | _ => none
  | _, _ => none
def asDt : W → Oh → Option (List (List Key × W))
  | .c j, O => match O[j]? with
    | some (.dct kvs) => some kvs
    | some (.ldct _ _ kvs) => some kvs
    | _ => none
  | _, _ => none
def keyW : W → Option Key
  | .d (.int i) => some (.inl i)
  | .d (.str x) => some (.inr x)
  | _ => none
def keyT : W → Option (List Key)
  | .k ks => some ks
  | _ => none
section
variable {K : Fg} {mg : Str → Option Value} {G : Hp} {α : Al} {O : Oh} {H : Hp}
theorem keysD_ok : ∀ {ds : List (PyData × PyData)} {es : List (Key × V)} {kvs : List (Key × W)}, RpK K G es ds → keysD ds = some kvs → RK K G α es kvs
  | [], _, _, h, e => by
    cases h
    cases e
    exact .nil
  | (q, d) :: r, _, _, h, e => by
    cases h with
    | @cons k v es _ _ _ e0 ok rp t =>
      subst e0
      cases k with
      | inl i =>
        unfold keyD keysD at e
        split at e
        · next kvs e2 => cases e; exact .cons ⟨rfl, rp⟩ (keysD_ok t e2)
        · cases e
      | inr x =>
        unfold keyD keysD at e
        split at e
        · next kvs e2 => cases e; exact .cons ⟨rfl, rp⟩ (keysD_ok t e2)
        · cases e
theorem asDk_ok {v : V} {x : W} {kvs : List (Key × W)} (rel : Rel K mg G α O H) (r : Rv K G α v x) (h : asDk x O = some kvs) : ∃ a es, v = .ref a ∧ Rd H a (.dK es) ∧ RK K G α es kvs := by
  unfold asDk at h
  split at h
  · next ds _ =>
    cases r with
    | scr ns hs => cases h
    | dk hg hk => exact ⟨_, _, rfl, .inr ⟨_, rel.ex _ _ hg⟩, keysD_ok hk h⟩
  · next O' j =>
    obtain ⟨a, ha, rfl⟩ := r
    split at h
    · next ws e =>
      cases h
      obtain ⟨_, es, hH, rk⟩ := rel.at_ j a _ ha e
      exact ⟨a, es, rfl, .inl hH, rk⟩
    · next ob es ws e =>
      cases h
      obtain ⟨_, hH, rk⟩ := rel.at_ j a _ ha e
      exact ⟨a, es, rfl, .inr ⟨ob, hH⟩, rk⟩
    · cases h
  · cases h
theorem asDt_ok {v : V} {x : W} {kvs : List (List Key × W)} (rel : Rel K mg G α O H) (r : Rv K G α v x) (h : asDt x O = some kvs) : ∃ a es, v = .ref a ∧ Rd H a (.dT es) ∧ RK K G α es kvs := by
  unfold asDt at h
  split at h
  · next O' j =>
    obtain ⟨a, ha, rfl⟩ := r
    split at h
    · next ws e =>
      cases h
      obtain ⟨_, es, hH, rk⟩ := rel.at_ j a _ ha e
      exact ⟨a, es, rfl, .inl hH, rk⟩
    · next ob es ws e =>
      cases h
      obtain ⟨_, hH, rk⟩ := rel.at_ j a _ ha e
      exact ⟨a, es, rfl, .inr ⟨ob, hH⟩, rk⟩
    · cases h
  · cases h
theorem keyW_ok {v : V} {x : W} {k : Key} (r : Rv K G α v x) (h : keyW x = some k) : v = kV k ∧ keyOk k = true := by
  unfold keyW at h
  split at h
  · cases h
    cases r
    exact ⟨rfl, rfl⟩
  · cases h
    cases r with | str _ o => exact ⟨rfl, o⟩
  · cases h
theorem keyT_ok {v : V} {x : W} {k : List Key} (r : Rv K G α v x) (h : keyT x = some k) : ∃ b, v = .ref b ∧ G b = some (.tup (k.map kV)) := by
  unfold keyT at h
  split at h
  · cases h
    obtain ⟨_, a, e, q⟩ := r
    exact ⟨a, e, q⟩
  · cases h
/-- what a dict tells of a key -/
def dGet (x y : W) (O : Oh) (k : Option W → Prop) : Prop := match asDk x O with
  | some kvs => (match keyW y with
    | some q => k (valW kvs q)
    | none => False)
  | none => (match asDt x O with
    | some kvs => (match keyT y with
      | some q => k (valW kvs q)
      | none => False)
    | none => False)
def isDictW (x : W) (O : Oh) : Bool := (asDk x O).isSome || (asDt x O).isSome
theorem dGet_ok {x y : W} {u v : V} {k : Option W → Prop} (rel : Rel K mg G α O H) (r1 : Rv K G α u x) (r2 : Rv K G α v y) (h : dGet x y O k) :
    ∃ a, u = .ref a ∧ ((DGet H a v none ∧ k none) ∨ ∃ z w, DGet H a v (some z) ∧ Rv K G α z w ∧ k (some w)) := by
  unfold dGet at h
  split at h
  · next kvs e =>
    split at h
    · next q eq =>
      obtain ⟨a, es, rfl, hr, rk⟩ := asDk_ok rel r1 e
      obtain ⟨rfl, _⟩ := keyW_ok r2 eq
      refine ⟨a, rfl, ?_⟩
      rcases rk.val q with ⟨e1, e2⟩ | ⟨z, w, e1, e2, r⟩
      · rw [e2] at h
        exact .inl ⟨.inl ⟨es, q, hr, rfl, e1.symm⟩, h⟩
      · rw [e2] at h
        exact .inr ⟨z, w, .inl ⟨es, q, hr, rfl, e1.symm⟩, r, h⟩
    · exact h.elim
  · split at h
    · next kvs e =>
      split at h
      · next q eq =>
        obtain ⟨a, es, rfl, hr, rk⟩ := asDt_ok rel r1 e
        obtain ⟨b, rfl, hb⟩ := keyT_ok r2 eq
        have hb' : H b = some (.tup (q.map kV)) := rel.ex _ _ hb
        refine ⟨a, rfl, ?_⟩
        rcases rk.val q with ⟨e1, e2⟩ | ⟨z, w, e1, e2, r⟩
        · rw [e2] at h
          exact .inl ⟨.inr ⟨es, q, b, hr, rfl, hb', e1.symm⟩, h⟩
        · rw [e2] at h
          exact .inr ⟨z, w, .inr ⟨es, q, b, hr, rfl, hb', e1.symm⟩, r, h⟩
      · exact h.elim
    · exact h.elim
end
/-! #### a[b], of dicts too -/
def rIxD : R2 := fun x y H Q => ∃ a v, x = .ref a ∧ DGet H a y (some v) ∧ Q v H
theorem isD_of {H : Hp} {a : Addr} {y : V} {o : Option V} (g : DGet H a y o) : IsD H a := by
  rcases g with ⟨kvs, k, e, _, _⟩ | ⟨kvs, k, b, e, _, _, _⟩
  · exact .inl ⟨_, e⟩
  · exact .inr ⟨_, e⟩
theorem ix_dict {X : Cx} (hu : X.A.units + 1 < cLine) : IxR X rIxD := by
  intro value slice pins s σ H x y v u Q I rx ry h hs
  obtain ⟨a, z, ex, g, q⟩ := h
  subst ex
  obtain rfl : v = Value.ref a := rx
  obtain ⟨t1, t2, t3⟩ := isD_at I (isD_of g)
  have got : wpAny (model X.prog X.w) X.A (getItem (.ref a) u) (EP X pins σ Q) X.xe s := d_getItem hu I g ry fun w' s' I' r' => ⟨z, H, I', r', q⟩
  show wpAny _ _ (subscriptTail value slice (.ref a) u) _ _ s
  unfold subscriptTail
  refine wpAny_bind ?_
  rw [getitemInPython_of_ne t1.not_modules]
  refine wpAny_bind (wpAny_specialOf t1 PySem.F.slot_dict_getitem.lookup ?_)
  have last : wpAny (model X.prog X.w) X.A (subscripted slice false (.ref a) u) (fun r s₃ => wpAny (model X.prog X.w) X.A (letTemporaryGo value (.ref a) r >>= fun _ => pure r) (EP X pins σ Q) X.xe s₃) X.xe s := by
    rw [hs]
    refine wpAny_operating (wpAny_mono got (fun r s₃ x => ?_) fun _ _ x => x)
    exact wpAny_bind (wpAny_letTemporaryGo (wpAny_pure x))
  first | exact wpAny_pure (wpAny_bind last) | exact wpAny_bind (wpAny_pure (wpAny_bind last)) | exact wpAny_bind last
def dIx2 : D2 := fun x y O R => if isDictW x O = true then dGet x y O (fun o => match o with
  | some w => R w O
  | none => False) else dIx x y O R
section
variable {K : Fg} {mg : Str → Option Value}
theorem s_ix2 : OpS K mg dIx2 (fun x y H Q => rIxD x y H Q ∨ rIx K x y H Q) := by
  intro G α O H x y u v R Q rel r1 r2 h p
  unfold dIx2 at h
  split at h
  · obtain ⟨a, rfl, h⟩ := dGet_ok rel r1 r2 h
    rcases h with ⟨_, h⟩ | ⟨z, w, g, r, h⟩
    · exact h.elim
    · exact .inl ⟨a, z, rfl, g, p.here h rel r⟩
  · exact .inr (s_ix _ _ _ _ _ _ _ _ _ _ rel r1 r2 h p)
end
section
variable {X : Cx} {Wx : WX} {k : Nat} {a b c e : Expr} {wa wb wc we : DEx} {pos p2 : Pos}
theorem de_ix2 (g : Good X Wx k) (ha : DE X Wx a wa) (hb : DE X Wx b wb) (hs : PlainIx b := by intro _ _; rfl) : DE X Wx (.Subscript a b pos) (dOp dIx2 wa wb) :=
  pe_imp (fun _ _ _ h => lift_op s_ix2 h) (pe_ix ((ix_dict (hu_of g.rm)).or ix_seq) ha hb hs)
end
/-! #### in, of dicts and of any data -/
def rInDk (neg : Bool) : R2 := fun x y H Q => ∃ a o, y = .ref a ∧ DGet H a x o ∧ Q (.bl (if neg then !o.isSome else o.isSome)) H
theorem op_in_dict {X : Cx} (hu : X.A.units + 1 < cLine) : OpR X (compareOp .In) (rInDk false) := by
  intro pins s σ H x y v u Q I rx ry h
  obtain ⟨a, o, ey, g, q⟩ := h
  subst ey
  obtain rfl : u = Value.ref a := ry
  exact d_in hu I g rx fun s' I' => ⟨.bl o.isSome, H, I', rfl, q⟩
theorem op_notin_dict {X : Cx} (hu : X.A.units + 1 < cLine) : OpR X (compareOp .NotIn) (rInDk true) := by
  intro pins s σ H x y v u Q I rx ry h
  obtain ⟨a, o, ey, g, q⟩ := h
  subst ey
  obtain rfl : u = Value.ref a := ry
  exact d_notIn hu I g rx fun s' I' => ⟨.bl (!o.isSome), H, I', rfl, q⟩
/-- in a list or a tuple of data -/
def rInAny (K : Fg) (neg : Bool) : R2 := fun x y H Q => ∃ d ds e, Dp K H x d ∧ Dp K H y e ∧ (e = .list ds ∨ e = .tuple ds) ∧ d.plain = true ∧ PyData.plainAll ds = true ∧ d.depth ≤ 64 ∧
  Q (.bl (if neg then !(ds.any fun z => PyData.eqv z d) else ds.any fun z => PyData.eqv z d)) H
theorem op_in_any {X : Cx} (hu : X.A.units + 100 < cLine) : OpR X (compareOp .In) (rInAny X.K false) := by
  intro pins s σ H x y v u Q I rx ry h
  obtain ⟨d, ds, e, hd, hy, he, p1, p2, hz, q⟩ := h
  obtain ⟨as, r1⟩ := Dp.reads I d x v hd rx
  obtain ⟨bs, r2⟩ := Dp.reads I e y u hy ry
  have hm : min (PyData.depthAll ds) d.depth ≤ 64 := Nat.le_trans (Nat.min_le_right _ _) hz
  rcases he with rfl | rfl
  · exact SeqAt.in_list_data r2 r1 p2 p1 (by omega) ⟨.bl (ds.any fun z => PyData.eqv z d), H, I, rfl, q⟩
  · exact SeqAt.in_tuple_data r2 r1 p2 p1 (by omega) ⟨.bl (ds.any fun z => PyData.eqv z d), H, I, rfl, q⟩
theorem op_notin_any {X : Cx} (hu : X.A.units + 100 < cLine) : OpR X (compareOp .NotIn) (rInAny X.K true) := by
  intro pins s σ H x y v u Q I rx ry h
  obtain ⟨d, ds, e, hd, hy, he, p1, p2, hz, q⟩ := h
  obtain ⟨as, r1⟩ := Dp.reads I d x v hd rx
  obtain ⟨bs, r2⟩ := Dp.reads I e y u hy ry
  have hm : min (PyData.depthAll ds) d.depth ≤ 64 := Nat.le_trans (Nat.min_le_right _ _) hz
  rcases he with rfl | rfl
  · exact SeqAt.notIn_list_data r2 r1 p2 p1 (by omega) ⟨.bl (!(ds.any fun z => PyData.eqv z d)), H, I, rfl, q⟩
  · exact SeqAt.notIn_tuple_data r2 r1 p2 p1 (by omega) ⟨.bl (!(ds.any fun z => PyData.eqv z d)), H, I, rfl, q⟩
theorem hu100 {A : Around} {k : Nat} (r : Room k A) : A.units + 100 < cLine := by have := r.un; omega
mutual
theorem shp_plain : ∀ (n : Nat) (d : PyData), shp n d = true → d.plain = true
  | n, .none, _ => rfl
  | n, .bool _, _ => rfl
  | n, .int _, _ => rfl
  | n, .str _, _ => rfl
  | 0, .list ds, h => by cases h
  | n + 1, .list ds, h => by simpa only [PyData.plain] using shp_plains n ds h
  | 0, .tuple ds, h => by cases h
  | n + 1, .tuple ds, h => by simpa only [PyData.plain] using shp_plains n ds h
  | 0, .dict _, h => by cases h
  | n + 1, .dict _, h => by cases h
theorem shp_plains : ∀ (n : Nat) (ds : List PyData), ds.all (shp n) = true → PyData.plainAll ds = true
  | n, [], _ => rfl
  | n, d :: ds, h => by
    rw [List.all_cons, Bool.and_eq_true] at h
    simp only [PyData.plainAll, Bool.and_eq_true]
    exact ⟨shp_plain n d h.1, shp_plains n ds h.2⟩
end
def seqD : PyData → Option (List PyData)
  | .list ds => some ds
  | .tuple ds => some ds
  | _ => none
def dIn2 (neg : Bool) : D2 := fun x y O R => if isDictW y O = true then dGet y x O (fun o => R (.d (.bool (if neg then !o.isSome else o.isSome))) O) else
  match x, y with
  | .d (.str i), .d (.str j) => R (.d (.bool (if neg then !strIn i j else strIn i j))) O
  | x, y => (match asD x O, asD y O with
    | some d, some e => (match seqD e with
      | some ds => shp 40 d = true ∧ shp 40 e = true ∧ R (.d (.bool (if neg then !(ds.any fun z => PyData.eqv z d) else ds.any fun z => PyData.eqv z d))) O
      | none => False)
    | _, _ => False)
theorem seqD_shp {e : PyData} {ds : List PyData} {n : Nat} (h : seqD e = some ds) (hs : shp (n + 1) e = true) : (e = .list ds ∨ e = .tuple ds) ∧ ds.all (shp n) = true := by
  cases e <;> first | (cases h; done) | skip
  · cases h; exact ⟨.inl rfl, hs⟩
  · cases h; exact ⟨.inr rfl, hs⟩
section
variable {K : Fg} {mg : Str → Option Value}
theorem s_in2 {neg : Bool} : OpS K mg (dIn2 neg) (fun x y H Q => rInS2 neg x y H Q ∨ rInDk neg x y H Q ∨ rInAny K neg x y H Q) := by
  intro G α O H x y u v R Q rel r1 r2 h p
  unfold dIn2 at h
  split at h
  · obtain ⟨a, rfl, h⟩ := dGet_ok rel r2 r1 h
    refine .inr (.inl ?_)
    rcases h with ⟨g, h⟩ | ⟨z, w, g, r, h⟩
    · exact ⟨a, none, rfl, g, p.here h rel (.bl _)⟩
    · exact ⟨a, some z, rfl, g, p.here h rel (.bl _)⟩
  · split at h
    · cases r1
      cases r2
      exact .inl ⟨_, _, rfl, rfl, p.here h rel (.bl _)⟩
    · next x y _ =>
      split at h
      · next d e e1 e2 =>
        split at h
        · next ds es =>
          obtain ⟨d1, s1⟩ := asD_ok rel r1 e1 h.1
          obtain ⟨d2, s2⟩ := asD_ok rel r2 e2 h.2.1
          obtain ⟨q1, q2⟩ := seqD_shp es h.2.1
          exact .inr (.inr ⟨d, ds, e, d1, d2, q1, shp_plain 40 d h.1, shp_plains 39 ds q2, Nat.le_trans (shp_depth 40 d h.1) (by decide), p.here h.2.2 rel (.bl _)⟩)
        · exact h.elim
      · exact h.elim
end
section
variable {X : Cx} {Wx : WX} {k : Nat}
theorem op_in5 (g : Good X Wx k) : OpR X (compareOp .In) (fun x y H Q => rInS2 false x y H Q ∨ rInDk false x y H Q ∨ rInAny X.K false x y H Q) := or_op op_in_str (or_op (op_in_dict (hu_of g.rm)) (op_in_any (hu100 g.rm)))
theorem op_notin5 (g : Good X Wx k) : OpR X (compareOp .NotIn) (fun x y H Q => rInS2 true x y H Q ∨ rInDk true x y H Q ∨ rInAny X.K true x y H Q) := or_op op_notIn_str (or_op (op_notin_dict (hu_of g.rm)) (op_notin_any (hu100 g.rm)))
end
/-! #### {} and d[k] = e -/
/-- a dict that will change, its keys ints and texts; tuples -/
def dDicK : DEx := fun _ O R _ => R (.c O.length) (O ++ [.dic []])
def dDicT : DEx := fun _ O R _ => R (.c O.length) (O ++ [.dct []])
/-- an empty dict that never changes -/
def dDicE : DEx := fun _ O R _ => R (.d (.dict [])) O
section
variable {X : Cx} {Wx : WX} {k : Nat} {a b c e : Expr} {wa wb wc we : DEx} {pos p2 : Pos}
/-! #### a dict is frozen -/
def tFrz (te : TE) : TE := fun σ H Q => te σ H fun v H1 => Q v H1 ∨ ∃ d u, v = .ref d ∧ H1 d = some u ∧ Mut (some u) ∧ ∀ od, Q v (upd H1 d (.frz od u))
theorem pe_frz {te : TE} (he : PE X e te) : PE X e (tFrz te) := by
  refine ⟨fun pins s σ H Q I h => ?_⟩
  refine thn (he.run pins s σ H _ I h) fun v s1 ⟨x, H1, I1, r, q⟩ => ?_
  rcases q with q | ⟨d, u, rfl, hd, mu, q⟩
  · exact ⟨x, H1, I1, r, q⟩
  · obtain ⟨od, I2⟩ := I1.lock hd mu
    exact ⟨_, _, I2, r, q od⟩
theorem upd_twice {H : Hp} {q : Addr} {o u : HO} : upd (upd H q o) q u = upd H q u := by
  funext b
  by_cases z : b = q
  · rw [z, upd_same, upd_same]
  · rw [upd_ne z, upd_ne z, upd_ne z]
theorem de_dicE : DE X Wx (.Dict [] [] pos) dDicE := by
  refine pe_imp (fun σ H Q ⟨G, α, Γ, O, R, xe, sl, rel, h, p, xp⟩ => ?_) (pe_frz pe_dnewK)
  intro q hq
  refine .inr ⟨q, .dK [], rfl, upd_same, trivial, fun od => ?_⟩
  rw [upd_twice]
  exact p.lay h rel hq (.dk upd_same .nil)
/-- o[i] = v, of a list or a dict -/
def dPutIx (o i v : W) (O : Oh) (k : Oh → Prop) : Prop := match o with
  | .c j => (match O[j]? with
    | some (.lst ws) => (match i with
      | .d (.int n) => (match ixN ws.length n with
        | some m => k (O.set j (.lst (ws.set m v)))
        | none => False)
      | _ => False)
    | some (.dic kvs) => (match keyW i with
      | some q => kvs.length < 1000000 ∧ k (O.set j (.dic (putW kvs q v)))
      | none => False)
    | some (.dct kvs) => (match keyT i with
      | some q => kvs.length < 1000000 ∧ k (O.set j (.dct (putW kvs q v)))
      | none => False)
    | _ => False)
  | _ => False
def dSetI (wo wi we : DEx) : DSt := fun D xe Γ O => we Γ O (fun v O1 => wo Γ O1 (fun o O2 => wi Γ O2 (fun i O3 => dPutIx o i v O3 fun O4 => D.nx Γ O4) xe) xe) xe
theorem putIx_ok {K : Fg} {mg : Str → Option Value} {G : Hp} {α : Al} {O : Oh} {H : Hp} {o i v : W} {ov iv vv : V} {k : Oh → Prop} {Q : Hp → Prop} (rel : Rel K mg G α O H) (r1 : Rv K G α ov o) (r2 : Rv K G α iv i) (r3 : Rv K G α vv v) (h : dPutIx o i v O k)
    (q : ∀ O' H', k O' → Rel K mg G α O' H' → Q H') : rSetL ov iv vv H Q ∨ rSetD ov iv vv H Q := by
  unfold dPutIx at h
  split at h
  · next j =>
    obtain ⟨a, ha, rfl⟩ := r1
    split at h
    · next ws ej =>
      split at h
      · next n =>
        split at h
        · next m em =>
          cases r2
          obtain ⟨g0, vs, hH, rl⟩ := rel.at_ j a _ ha ej
          refine .inl ⟨a, vs, n, m, rfl, rfl, hH, by rw [rl.len]; exact em, ?_⟩
          exact q _ _ h (rel.write (o := .lst (vs.set m vv)) (c := .lst (ws.set m v)) ha ej hH g0 (fun b z => by cases z) (fun b z => by cases z) ⟨g0, _, upd_same, rl.set r3 m⟩)
        · exact h.elim
      · exact h.elim
    · next kvs ej =>
      split at h
      · next y ey =>
        obtain ⟨rfl, _⟩ := keyW_ok r2 ey
        obtain ⟨g0, es, hH, rk⟩ := rel.at_ j a _ ha ej
        refine .inr ⟨a, _, rfl, DPut.k hH (by rw [rk.len]; exact szlt h.1), ?_⟩
        exact q _ _ h.2 (rel.write (o := .dK (putK es y vv)) (c := .dic (putW kvs y v)) ha ej hH g0 (fun b z => by cases z) (fun b z => by cases z) ⟨g0, _, upd_same, rk.put r3⟩)
      · exact h.elim
    · next kvs ej =>
      split at h
      · next y ey =>
        obtain ⟨b, rfl, hb⟩ := keyT_ok r2 ey
        obtain ⟨g0, es, hH, rk⟩ := rel.at_ j a _ ha ej
        refine .inr ⟨a, _, rfl, DPut.t hH (rel.ex _ _ hb) (by rw [rk.len]; exact szlt h.1), ?_⟩
        exact q _ _ h.2 (rel.write (o := .dT (putK es y vv)) (c := .dct (putW kvs y v)) ha ej hH g0 (fun b z => by cases z) (fun b z => by cases z) ⟨g0, _, upd_same, rk.put r3⟩)
      · exact h.elim
    · exact h.elim
  · exact h.elim
theorem set_or {t t' : TSet} (h : PSet X t) (h' : PSet X t') : PSet X (fun o i v H Q => t o i v H Q ∨ t' o i v H Q) := by
  intro pins s σ H o i v ov iv u Q I r1 r2 r3 q
  rcases q with q | q
  · exact h pins s σ H o i v ov iv u Q I r1 r2 r3 q
  · exact h' pins s σ H o i v ov iv u Q I r1 r2 r3 q
theorem ds_setI (g : Good X Wx k) {pos' : Pos} (ho : DE X Wx a wa) (hi : DE X Wx b wb) (he : DE X Wx e we) (hs : swapsWithSole [.Subscript a b pos'] e pos.line X.env = pure false := by rfl) (hw : swappedStores [.Subscript a b pos'] e X.env = pure none := by rfl)
    (h1 : (assignEach [.Subscript a b pos'] X.env).map (·.2) = [assign (.Subscript a b pos') X.env] := by rfl)
    (hA : ∀ v, assign (.Subscript a b pos') X.env v = (do
      let ov ← holding [v] (eval a X.env)
      let iv ← holding [v, ov] (eval b X.env)
      standAt pos'
      holding [v, ov, iv] (setItem ov iv v)
      release [v, ov, iv] []) := by intro _; rfl) : DS X Wx (.Assign [.Subscript a b pos'] e pos) (dSetI wa wb we) := by
  refine ps_imp (fun D σ H ⟨G, α, Γ, O, DD, xe, sl, rel, h, p, xp⟩ => ?_) (ps_asg he (pg_sub ho hi (set_or set_list (set_dict (hu_of g.rm))) hA) hs hw h1)
  refine ⟨G, α, Γ, O, _, xe, sl, rel, h, fun y O1 h1 v G1 α1 H1 e1 p1 rel1 r1 => ?_, xp⟩
  refine ⟨G1, α1, Γ, O1, _, xe, sl.mono e1 p1, rel1, h1, fun o O2 h2 ov G2 α2 H2 e2 p2 rel2 r2 => ?_, xp.mono e1 p1⟩
  refine ⟨G2, α2, Γ, O2, _, xe, sl.mono (e1.trans e2) (p1.trans p2), rel2, h2, fun i O3 h3 iv G3 α3 H3 e3 p3 rel3 r3 => ?_, xp.mono (e1.trans e2) (p1.trans p2)⟩
  have e13 := e1.trans (e2.trans e3)
  have p13 := p1.trans (p2.trans p3)
  exact putIx_ok rel3 (r2.mono e3 p3) r3 (r1.mono (e2.trans e3) (p2.trans p3)) h3 fun O' H' q rel' => p.nx _ _ q _ _ _ _ e13 p13 rel' (sl.mono e13 p13)
end
/-! #### list(d) -/
def dListOf2 : DC := fun xs O R => match xs with
  | [x] => (match asDk x O with
    | some kvs => kvs.length ≤ 1000000 ∧ (kvs.map (·.1)).all keyOk = true ∧ R (.d (.list (kvs.map fun kv => keyD kv.1))) O
    | none => dListOf [x] O R)
  | _ => False
def dListC2 : DC := fun xs O R => match xs with
  | [x] => (match asDk x O with
    | some kvs => kvs.length ≤ 1000000 ∧ (kvs.map (·.1)).all keyOk = true ∧ R (.c O.length) (O ++ [.lst (kvs.map fun kv => .d (keyD kv.1))])
    | none => dListC [x] O R)
  | _ => False
abbrev rListD2 (K : Fg) : List V → Hp → VK → Prop := fun xs H Q => (∃ (a : Addr) (kvs : List (Key × V)), xs = [.ref a] ∧ Rd H a (.dK kvs) ∧ ∀ p, H p = none → Q (.ref p) (upd H p (.lst (kvs.map fun kv => kV kv.1)))) ∨ rListOf K xs H Q
section
variable {K : Fg} {mg : Str → Option Value}
theorem RK.keys {G : Hp} {α : Al} : ∀ {es : List (Key × V)} {kvs : List (Key × W)}, RK K G α es kvs → es.map (fun kv => kV kv.1) = (kvs.map (·.1)).map kV
  | _, _, .nil => rfl
  | _, _, .cons h t => by rw [List.map_cons, List.map_cons, List.map_cons, RK.keys t, h.1]
theorem s_listC2 : CallS K mg dListC2 (rListD2 K) := by
  intro G α O H xs vs R Q rel rl h p
  unfold dListC2 at h
  split at h
  · next x =>
    split at h
    · next kvs e =>
      obtain ⟨v, rfl, rv⟩ := rv1 rl
      obtain ⟨a, es, rfl, hr, rk⟩ := asDk_ok rel rv e
      refine .inl ⟨a, es, rfl, hr, fun l hl => ?_⟩
      have rr : RvL K G α (es.map fun kv => kV kv.1) (kvs.map fun kv => .d (keyD kv.1)) := by
        have q := RvL.ofD (α := α) (RpL.keys (K := K) (G := G) h.2.1)
        rw [rk.keys]
        have e2 : (kvs.map fun kv => W.d (keyD kv.1)) = ((kvs.map (·.1)).map keyD).map W.d := by rw [List.map_map, List.map_map]; rfl
        rw [e2]
        exact q
      have rel2 := rel.cell (o := .lst (es.map fun kv => kV kv.1)) (c := .lst (kvs.map fun kv => .d (keyD kv.1))) hl (fun b z => by cases z) ⟨rel.ex.free hl, _, upd_same, rr.mono (Ex.refl _) Pre.push⟩
      exact p _ _ h.2.2 _ _ _ _ (Ex.refl _) Pre.push rel2 ⟨l, pre_len rel.len, rfl⟩
    · exact .inr (s_listC _ _ _ _ _ _ _ _ rel rl h p)
  · exact h.elim
end
theorem call_list2 {X : Cx} (hc : X.calm = true) : CallR X (.type "list") (rListD2 X.K) := or_call (call_listD hc) call_list_of
end Dl
namespace Dl
open PySem PySem.Spec PyProof.Rows L2
variable [TabsC]
/-! #### isinstance with a built-in class -/
def tyW : W → Oh → Option String
  | .d .none, _ => some "NoneType"
  | .d (.bool _), _ => some "bool"
  | .d (.int _), _ => some "int"
  | .d (.str _), _ => some "str"
  | .d (.list _), _ => some "list"
  | .d (.tuple _), _ => some "tuple"
  | .d (.dict []), _ => some "dict"
  | .d (.dict ((.int _, _) :: _)), _ => some "dict"
  | .d (.dict ((.str _, _) :: _)), _ => some "dict"
  | .k _, _ => some "tuple"
  | .c j, O => match O[j]? with
    | some (.lst _) => some "list"
    | some (.dic _) => some "dict"
    | some (.dct _) => some "dict"
    | _ => none
  | _, _ => none
def subT (t T : String) : Bool := t == T || (t == "bool" && T == "int")
theorem kit_ty {K : Fg} {t T : String} (ht : t ∈ ["NoneType", "bool", "int", "str", "list", "tuple", "dict"]) (hT : T ∈ ["int", "bool", "str", "list", "tuple", "dict"]) : PySem.W.kitOne K (.type t) (.type T) = some (subT t T) := by
  simp only [List.mem_cons, List.mem_nil_iff, or_false] at ht hT
  rcases ht with rfl | rfl | rfl | rfl | rfl | rfl | rfl <;> rcases hT with rfl | rfl | rfl | rfl | rfl | rfl <;> rfl
section
variable {K : Fg} {mg : Str → Option Value} {G : Hp} {α : Al} {O : Oh} {H : Hp}
theorem sqT_ty {a : Addr} {xs : List V} (h : SqT K H a xs) : TyX K H (.ref a) (.type "tuple") := by
  rcases h with (h | ⟨o, h⟩) | ⟨o, its, n, hk, hc, _⟩
  · exact .base (.tup h)
  · exact .fTuple h
  · exact .kTuple hk hc
theorem tyW_ok {v : V} {x : W} {t : String} (rel : Rel K mg G α O H) (r : Rv K G α v x) (h : tyW x O = some t) : TyX K H v (.type t) ∧ t ∈ ["NoneType", "bool", "int", "str", "list", "tuple", "dict"] := by
  unfold tyW at h
  split at h <;> try (cases h; done)
  · cases h; cases r; exact ⟨.base .non, by simp⟩
  · cases h; cases r; exact ⟨.base (.bl _), by simp⟩
  · cases h; cases r; exact ⟨.base (.int _), by simp⟩
  · cases h; cases r; exact ⟨.base (.str _), by simp⟩
  · cases h
    cases r with | lst hs ha => exact ⟨.base (.lst (rel.ex _ _ hs)), by simp⟩
  · cases h
    cases r with | tup hs td ha => exact ⟨sqT_ty (rel.ex.sqT hs), by simp⟩
  · cases h
    cases r with
    | dk hg hk => exact ⟨.fDict (rel.ex _ _ hg), by simp⟩
  · cases h
    cases r with | dk hg hk => exact ⟨.fDict (rel.ex _ _ hg), by simp⟩
  · cases h
    cases r with | dk hg hk => exact ⟨.fDict (rel.ex _ _ hg), by simp⟩
  · cases h
    obtain ⟨_, a, rfl, q⟩ := r
    exact ⟨.base (.tup (rel.ex _ _ q)), by simp⟩
  · next O' j =>
    obtain ⟨a, ha, rfl⟩ := r
    split at h
    · next ws e => cases h; obtain ⟨_, vs, hH, _⟩ := rel.at_ j a _ ha e; exact ⟨.base (.lst hH), by simp⟩
    · next ws e => cases h; obtain ⟨_, vs, hH, _⟩ := rel.at_ j a _ ha e; exact ⟨.base (.dK hH), by simp⟩
    · next ws e => cases h; obtain ⟨_, vs, hH, _⟩ := rel.at_ j a _ ha e; exact ⟨.base (.dT hH), by simp⟩
    · cases h
end
def dIsi (T : String) (we : DEx) : DEx := fun Γ O R xe => we Γ O (fun x O1 => match tyW x O1 with
  | some t => R (.d (.bool (subT t T))) O1
  | none => False) xe
section
variable {X : Cx} {Wx : WX} {k : Nat} {a b c e : Expr} {wa wb wc we : DEx} {pos p2 : Pos}
theorem de_isi {T : String} {x : Str} {p pT pos : Pos} (hT : T ∈ ["int", "bool", "str", "list", "tuple", "dict"]) (hx : bootBuiltins x = some (.type T)) (hm : X.mg "isinstance" = none) (hm2 : X.mg x = none) (ha : DE X Wx e we) (hv : bootBuiltins "isinstance" = some (.builtin "isinstance")) (hg : Gl X "isinstance" := by rfl) (hg2 : Gl X x := by rfl)
    (hn2 : x ≠ "__name__" := by decide) (hd2 : (x == ("__debug__" : Str)) = false := by decide)
    (hs : starEach (e :: [.Name x pT]) X.env = (false, eval e X.env) :: starEach [.Name x pT] X.env := by rfl) (hs2 : starEach [.Name x pT] X.env = (false, eval (.Name x pT) X.env) :: starEach [] X.env := by rfl)
    (hpl : (backTo pos (starEach [.Name x pT] X.env)).any (·.1) = false := by rfl) :
    DE X Wx (.Call (.Name "isinstance" p) [e, .Name x pT] [] pos) (dIsi T we) := by
  have hb : PE X (.Name x pT) (tC (.ty T)) := pe_bltn hg2 hm2 hx rfl (hn := hn2) (hd := hd2)
  refine pe_imp (fun σ H Q ⟨G, α, Γ, O, R, xe, sl, rel, h, p, xp⟩ => ?_) (pe_callB call_isi hg hm hv (pa_cons ha (pa_cons hb pa_nil hs2) hs) (he := hs) (hpl := hpl))
  refine ⟨G, α, Γ, O, _, xe, sl, rel, h, fun y O1 h1 v G1 α1 H1 e1 p1 rel1 r1 => ?_, xp⟩
  dsimp only at h1
  split at h1
  · next t et =>
    obtain ⟨ty, ht⟩ := tyW_ok rel1 r1 et
    exact ⟨v, .ty T, .type t, .type T, subT t T, rfl, .ty T, ty, kit_ty ht hT, p _ _ h1 _ _ _ _ e1 p1 rel1 (.bl _)⟩
  · exact h1.elim
end
/-! #### sorted -/
def alikeB (ds : List PyData) : Bool := ds.all fun d => ds.all fun e => PySem.W.alike d e
def sortableB (ds : List PyData) : Bool := (ds.all fun d => match d with
  | .tuple (_ :: _) => true
  | _ => false) || ds.all fun d => match d with
  | .none => false
  | .tuple _ => false
  | _ => true
def srtD (ds : List PyData) : List PyData := ds.mergeSort (PySem.W.dataLe false fun d => d)
def strsD : List PyData → Option (List Str)
  | [] => some []
  | .str x :: r => match strsD r with
    | some xs => some (x :: xs)
    | none => none
  | _ :: _ => none
theorem strsD_eq : ∀ {ds : List PyData} {xs : List Str}, strsD ds = some xs → ds = xs.map PyData.str
  | [], xs, h => by cases h; rfl
  | .str x :: r, xs, h => by
    unfold strsD at h
    split at h
    · next ys e => cases h; rw [strsD_eq e]; rfl
    · cases h
  | .none :: _, _, h => by cases h
  | .bool _ :: _, _, h => by cases h
  | .int _ :: _, _, h => by cases h
  | .list _ :: _, _, h => by cases h
  | .tuple _ :: _, _, h => by cases h
  | .dict _ :: _, _, h => by cases h
theorem strsD_map (xs : List Str) : strsD (xs.map PyData.str) = some xs := by
  induction xs with
  | nil => rfl
  | cons x xs ih => show (match strsD (xs.map PyData.str) with | some ys => some (x :: ys) | none => none) = _; rw [ih]
def keysStr : List Key → Option (List Str)
  | [] => some []
  | .inr x :: r => match keysStr r with
    | some xs => some (x :: xs)
    | none => none
  | _ :: _ => none
def dSorted : DC := fun xs O R => match xs with
  | [x] => (match asDk x O with
    | some kvs => (match keysStr (kvs.map (·.1)) with
      | some ks => ks.length < 64 ∧ ks.all PyData.strOk = true ∧ R (.d (.list (srtD (ks.map PyData.str)))) O
      | none => False)
    | none => (match asS x O with
      | some ws => (match datas ws with
        | some ds => alikeB ds = true ∧ sortableB ds = true ∧ ds.all (shp 40) = true ∧ R (.d (.list (srtD ds))) O
        | none => False)
      | none => False))
  | _ => False
end Dl
namespace Dl
open PySem PySem.Spec PyProof.Rows L2
variable [TabsC]
/-! #### texts in order -/
def leS (a b : Str) : Bool := decide (a.cps.toList ≤ b.cps.toList)
theorem dataLe_strs (a b : Str) : PySem.W.dataLe false (fun d => d) (.str a) (.str b) = leS a b := congrFun (congrFun (PySem.W.dataLe_str (β := Str) fun x => x) a) b
def srtS (xs : List Str) : List Str := xs.mergeSort leS
theorem srtD_strs (xs : List Str) : srtD (xs.map PyData.str) = (srtS xs).map PyData.str := by
  unfold srtD srtS
  exact (List.map_mergeSort fun a _ b _ => (dataLe_strs a b).symm).symm
/-! ints -/
/-! #### sep.join(texts) -/
def dJoin (wo wa : DEx) : DEx := fun Γ O R xe => wo Γ O (fun o O1 => match o with
  | .d (.str z) => wa Γ O1 (fun x O2 => match asS x O2 with
    | some ws => (match datas ws with
      | some ds => (match strsD ds with
        | some ys => (ys.map (·.length)).sum + ys.length * z.length ≤ 1000000 ∧ R (.d (.str (Txt.join z ys))) O2
        | none => False)
      | none => False)
    | none => False) xe
  | _ => False) xe
theorem strOk_iff (x : Str) : PyData.strOk x = true ↔ ∀ c ∈ x.cps.toList, PyData.strOk ⟨#[c]⟩ = true := by
  unfold PyData.strOk
  rw [Array.all_eq_true_iff_forall_mem]
  constructor
  · intro h c hc
    have := h c (by simpa using hc)
    simpa using this
  · intro h c hc
    have := h c (by simpa using hc)
    simpa using this
theorem glue_list (z : Str) : ∀ (ps : List Str) (acc : Array Nat), (ps.foldl (fun acc p => acc ++ z.cps ++ p.cps) acc).toList = acc.toList ++ (ps.map fun p => z.cps.toList ++ p.cps.toList).flatten
  | [], acc => by simp
  | p :: ps, acc => by
    rw [List.foldl_cons, glue_list z ps]
    simp
/-- the codes of a join -/
theorem join_list (z : Str) (ys : List Str) : (Txt.join z ys).cps.toList = (ys.headD Str.empty).cps.toList ++ ((ys.drop 1).map fun p => z.cps.toList ++ p.cps.toList).flatten := glue_list z (ys.drop 1) (ys.headD Str.empty).cps
theorem join_cps (z : Str) (ys : List Str) (c : Nat) (hc : c ∈ (Txt.join z ys).cps.toList) : c ∈ z.cps.toList ∨ ∃ y ∈ ys, c ∈ y.cps.toList := by
  rw [join_list] at hc
  rcases List.mem_append.mp hc with hc | hc
  · cases ys with
    | nil => exact absurd hc (by show ¬ c ∈ (Str.empty).cps.toList; simp [Str.empty])
    | cons y ys => exact .inr ⟨y, List.mem_cons_self, hc⟩
  · obtain ⟨l, hl, hc⟩ := List.mem_flatten.mp hc
    obtain ⟨y, hy, rfl⟩ := List.mem_map.mp hl
    rcases List.mem_append.mp hc with hc | hc
    · exact .inl hc
    · exact .inr ⟨y, List.mem_of_mem_drop hy, hc⟩
theorem strOk_join {z : Str} {ys : List Str} (hz : PyData.strOk z = true) (hy : ys.all PyData.strOk = true) : PyData.strOk (Txt.join z ys) = true := by
  rw [strOk_iff]
  intro c hc
  rcases join_cps z ys c hc with h | ⟨y, hm, h⟩
  · exact (strOk_iff z).mp hz c h
  · exact (strOk_iff y).mp (List.all_eq_true.mp hy y hm) c h
section
variable {X : Cx} {Wx : WX} {k : Nat} {a b c e o : Expr} {wa wb wc we wo : DEx} {pos p2 apos cpos : Pos} {es : List Expr} {ws : DA}
theorem rpL_strs_inv {K : Fg} {G : Hp} : ∀ {ys : List Str} {vs : List V}, RpL K G vs (ys.map PyData.str) → vs = ys.map V.str ∧ ys.all PyData.strOk = true
  | [], _, h => by cases h; exact ⟨rfl, rfl⟩
  | y :: ys, _, h => by
    cases h with
    | cons h1 h2 =>
      cases h1 with
      | str _ ok =>
        obtain ⟨e, o⟩ := rpL_strs_inv h2
        exact ⟨by rw [e]; rfl, by rw [List.all_cons, ok, o]; rfl⟩
theorem de_join (ho : DE X Wx o wo) (ha : DE X Wx e we) (hs : starEach [e] X.env = [(false, eval e X.env)] := by rfl) (hbase : attributeBase o "join" X.env (eval o X.env) = eval o X.env := by rfl) (hline : (apos.endLine == pos.line) = true := by rfl) :
    DE X Wx (.Call (.Attribute o "join" apos) [e] [] pos) (dJoin wo we) := by
  refine pe_imp (fun σ H Q ⟨G, α, Γ, O, R, xe, sl, rel, h, p, xp⟩ => ?_) (pe_join ho ha hs hbase hline)
  refine ⟨G, α, Γ, O, _, xe, sl, rel, h, fun x O1 h1 v G1 α1 H1 e1 p1 rel1 r1 => ?_, xp⟩
  dsimp only at h1
  split at h1
  · next z =>
    cases r1 with
    | str _ oz =>
      refine ⟨⟨z, rfl⟩, G1, α1, Γ, O1, _, xe, sl.mono e1 p1, rel1, h1, fun y O2 h2 u G2 α2 H2 e2 p2 rel2 r2 => ?_, xp.mono e1 p1⟩
      dsimp only at h2
      split at h2
      · next ws ew =>
        split at h2
        · next ds ed =>
          split at h2
          · next ys ey =>
            obtain ⟨a, us, rfl, hs, ra⟩ := asS_ok rel2 r2 ew
            rw [datas_eq ed, strsD_eq ey] at ra
            obtain ⟨eu, ok⟩ := rpL_strs_inv ra.toD
            subst eu
            exact ⟨z, a, ys, rfl, rfl, hs, Nat.le_trans h2.1 (by decide), p _ _ h2.2 _ _ _ _ (e1.trans e2) (p1.trans p2) rel2 (.str _ (strOk_join oz ok))⟩
          · exact h2.elim
        · exact h2.elim
      · exact h2.elim
  · exact h1.elim
/-! #### a op b op' c -/
def dChain (f f' : D2) (wa wb wc : DEx) : DEx := fun Γ O R xe => wa Γ O (fun x O1 => wb Γ O1 (fun y O2 => f x y O2 fun z O3 => match z with
  | .d (.bool t) => if t = true then wc Γ O3 (fun w O4 => f' y w O4 R) xe else R (.d (.bool false)) O3
  | _ => False) xe) xe
theorem de_chain {op op' : CmpOp} {f f' : D2} {r r' : R2} (ho : OpR X (compareOp op) r) (hs : OpS X.K X.mg f r) (ho' : OpR X (compareOp op') r') (hs' : OpS X.K X.mg f' r') (ha : DE X Wx a wa) (hb : DE X Wx b wb) (hc : DE X Wx c wc)
    (hm : lastMarks [op, op'] [b, c] = false := by with_unfolding_all rfl) : DE X Wx (.Compare a [op, op'] [b, c] pos) (dChain f f' wa wb wc) := by
  refine pe_imp (fun σ H Q ⟨G, α, Γ, O, R, xe, sl, rel, h, p, xp⟩ => ?_) (pe_chain ho ho' ha hb hc hm)
  refine ⟨G, α, Γ, O, _, xe, sl, rel, h, fun x O1 h1 u G1 α1 H1 e1 p1 rel1 r1 => ?_, xp⟩
  refine ⟨G1, α1, Γ, O1, _, xe, sl.mono e1 p1, rel1, h1, fun y O2 h2 v G2 α2 H2 e2 p2 rel2 r2 => ?_, xp.mono e1 p1⟩
  refine hs G2 α2 O2 H2 x y u v _ _ rel2 (r1.mono e2 p2) r2 h2 fun z O3 h3 q G3 α3 H3 e3 p3 rel3 r3 => ?_
  have e13 := e1.trans (e2.trans e3)
  have p13 := p1.trans (p2.trans p3)
  split at h3
  · next t =>
    cases r3
    refine ⟨t, rfl, ?_⟩
    split at h3
    · next ct =>
      rw [if_pos ct]
      refine ⟨G3, α3, Γ, O3, _, xe, sl.mono e13 p13, rel3, h3, fun w O4 h4 q' G4 α4 H4 e4 p4 rel4 r4 => ?_, xp.mono e13 p13⟩
      exact hs' G4 α4 O4 H4 y w v q' R Q rel4 (r2.mono (e3.trans e4) (p3.trans p4)) r4 h4 (p.mono (e13.trans e4) (p13.trans p4))
    · next ct =>
      rw [if_neg ct]
      exact p _ _ h3 _ _ _ _ e13 p13 rel3 (.bl _)
  · exact h3.elim
/-! #### methods of tuples -/
def dTM (f : DM) (wo : DEx) (ws : DA) : DEx := fun Γ O R xe => wo Γ O (fun o O1 => match o with
  | .d (.tuple ds) => ws Γ O1 (fun xs O2 => f (.d (.tuple ds)) xs O2 R) xe
  | _ => False) xe
/-! #### < and the like, of any alike data -/
def rLtD (K : Fg) (g : PyData → PyData → Bool) : R2 := fun x y H Q => ∃ d e, Dp K H x d ∧ Dp K H y e ∧ PySem.W.alike d e = true ∧ d ≠ .none ∧ d.depth ≤ 64 ∧ Q (.bl (g d e)) H
theorem op_ltD (hu : X.A.units + 100 < cLine) : OpR X (compareOp .Lt) (rLtD X.K fun d e => PySem.W.dataLt d e) := by
  intro pins s σ H x y v u Q I rx ry ⟨d, e, hd, he, al, hn, hz, q⟩
  obtain ⟨as, r1⟩ := Dp.reads I d x v hd rx
  obtain ⟨bs, r2⟩ := Dp.reads I e y u he ry
  exact PySem.W.lt_data r1 r2 al hn (by have := Nat.min_le_left d.depth e.depth; omega) ⟨.bl (PySem.W.dataLt d e), H, I, rfl, q⟩
theorem op_gtD (hu : X.A.units + 100 < cLine) : OpR X (compareOp .Gt) (rLtD X.K fun d e => PySem.W.dataLt e d) := by
  intro pins s σ H x y v u Q I rx ry ⟨d, e, hd, he, al, hn, hz, q⟩
  obtain ⟨as, r1⟩ := Dp.reads I d x v hd rx
  obtain ⟨bs, r2⟩ := Dp.reads I e y u he ry
  exact PySem.W.gt_data r1 r2 al hn (by have := Nat.min_le_left d.depth e.depth; omega) ⟨.bl (PySem.W.dataLt e d), H, I, rfl, q⟩
def dLtD (g : PyData → PyData → Bool) : D2 := fun x y O R => match asD x O, asD y O with
  | some d, some e => shp 40 d = true ∧ shp 40 e = true ∧ PySem.W.alike d e = true ∧ isNone (.d d) = false ∧ R (.d (.bool (g d e))) O
  | _, _ => False
theorem s_ltD {K : Fg} {mg : Str → Option Value} {g : PyData → PyData → Bool} : OpS K mg (dLtD g) (rLtD K g) := by
  intro G α O H x y u v R Q rel r1 r2 h p
  unfold dLtD at h
  split at h
  · next d e e1 e2 =>
    obtain ⟨d1, _⟩ := asD_ok rel r1 e1 h.1
    obtain ⟨d2, _⟩ := asD_ok rel r2 e2 h.2.1
    refine ⟨d, e, d1, d2, h.2.2.1, fun z => ?_, Nat.le_trans (shp_depth 40 d h.1) (by decide), p.here h.2.2.2.2 rel (.bl _)⟩
    rw [z] at h
    exact absurd h.2.2.2.1 (by simp [isNone])
  · exact h.elim
end
end Dl
namespace Dl
open PySem PySem.Spec PyProof.Rows L2
variable [TabsC]
/-! #### enumerate(tuple), at the machine -/
/-! #### enumerate, over data -/
def enumW (n : Nat) : List PyData → List W
  | [] => []
  | d :: r => .p [.int (n : Nat), d] :: enumW (n + 1) r
/-- what is walked never changes -/
def asFz : W → Option (List PyData)
  | .d (.list ds) => some ds
  | .d (.tuple ds) => some ds
  | _ => none
def dEnum (ws : DA) : DI := fun Γ O S xe => ws Γ O (fun xs O1 => match xs with
  | [x] => (match asFz x with
    | some ds => S (enumW 0 ds) (fun _ => True) O1
    | none => False)
  | _ => False) xe
section
variable {X : Cx} {Wx : WX} {k : Nat} {a b c e o : Expr} {wa wb wc we wo : DEx} {pos p2 : Pos} {ws : DA}
/-! #### zip of two, alike lists or tuples of data -/
def zipW : List PyData → List PyData → List W
  | d :: r, e :: t => .p [d, e] :: zipW r t
  | _, _ => []
def dZip (ws : DA) : DI := fun Γ O S xe => ws Γ O (fun xs O1 => match xs with
  | [.d (.list ds), .d (.list es)] => S (zipW ds es) (fun _ => True) O1
  | [.d (.tuple ds), .d (.tuple es)] => S (zipW ds es) (fun _ => True) O1
  | _ => False) xe
end
end Dl
namespace Dl
open PySem PySem.Spec PyProof.Rows L2
variable [TabsC]
/-! #### the base's __init__, read off an own class that has none -/
/-! #### what __init__ leaves of a new exception -/
/-! #### an exception with an __init__ of its own, made where nothing is handled: its context is None -/
/-! #### what is known of an exception's class -/
section
variable {X : Cx} {Wx : WX} {k : Nat} {a b c e o : Expr} {wa wb wc we wo : DEx} {pos p2 p : Pos} {ws : DA} {es : List Expr}
/-- raise C('..') -/
def dRaise0 (nm : Str) : DSt := fun _ xe Γ O => xe ⟨nm, []⟩ Γ O
/-- raise C(e, ..), fields of these names -/
def dRaiseF (nm : Str) (fs : List Str) (ws : DA) : DSt := fun _ xe Γ O => ws Γ O (fun vs O1 => match datas vs with
  | some ds => ds.length = fs.length ∧ xe ⟨nm, (fs.zip ds).reverse⟩ Γ O1
  | none => False) xe
/-! #### try .. except C: suite; .. as n -/
/-- subs: of each class that may come whether it is C or under it -/
def dTry (subs : List (Str × Bool)) (body suite : DSt) : DSt := fun D xe Γ O => body D (fun ex Γ' O' => match subs.lookup ex.cls with
  | some true => suite D X0 Γ' O'
  | some false => xe ex Γ' O'
  | none => False) Γ O
def dTryAs (subs : List (Str × Bool)) (i : Nat) (body : DSt) (suite : Addr → Option Addr → DSt) : DSt := fun D xe Γ O => body D (fun ex Γ' O' => match subs.lookup ex.cls with
  | some true => ∀ a d, suite a d { D with nx := fun Γ1 O1 => D.nx (Γ1.set i none) O1, bk := fun Γ1 O1 => D.bk (Γ1.set i none) O1, ct := fun Γ1 O1 => D.ct (Γ1.set i none) O1 } X0 (Γ'.set i (some (.o a d ex.fs))) O'
  | some false => xe ex Γ' O'
  | none => False) Γ O
/-- e.f, e the exception that is handled -/
def dXf (a : Addr) (d : Option Addr) (f : Str) (we : DEx) : DEx := fun Γ O R xe => we Γ O (fun x O1 => match x with
  | .o b d' fs => b = a ∧ d' = d ∧ (match fs.lookup f with
    | some y => R (.d y) O1
    | none => False)
  | _ => False) xe
end
end Dl
namespace Dl
open PySem PySem.Spec PyProof.Rows L2
variable [TabsC]
/-! #### a def of the program, as it is called -/
structure Has (P : Program) (w : World) (K : Fg) (mg : Str → Option Value) (base : Heap) (x : Str) (ps : List Str) (j : Nat) (df : DFn) : Prop where
  ex : ∃ f fd, FnOk P w K mg base (L2N.CX P w) j f fd ps (liftF K mg df) ∧ mg x = some (.ref f) ∧ PySem.W.keepIn K (.ref f) = true ∧ Binds K fd ps []
/-- no name of the module's -/
structure NB (mg : Str → Option Value) : Prop where
  len : mg "len" = none
  abs : mg "abs" = none
  max : mg "max" = none
  min : mg "min" = none
  tuple : mg "tuple" = none
  list : mg "list" = none
  all : mg "all" = none
  any : mg "any" = none
  sorted : mg "sorted" = none
  set : mg "set" = none
  isinstance : mg "isinstance" = none
  range : mg "range" = none
  enumerate : mg "enumerate" = none
  zip : mg "zip" = none
  int : mg "int" = none
  str : mg "str" = none
  bool : mg "bool" = none
  dict : mg "dict" = none
  repr : mg "repr" = none
  sum : mg "sum" = none
  type : mg "type" = none
  reversed : mg "reversed" = none
/-- a call of a def that raises nothing -/
def dCall0 (f : DFn) (ws : DA) : DEx := fun Γ O R xe => ws Γ O (fun vs O1 => f vs O1 R fun _ _ => False) xe
section
variable {X : Cx} {Wx : WX} {k : Nat} {a b c e o : Expr} {wa wb wc we wo : DEx} {pos p2 p : Pos} {ws : DA} {es : List Expr} {ps : List Str} {df : DFn} {x : Str}
theorem no_exnN {E : XK} (h : ∀ c d H, ¬ E c d H) : Passes (L2N.CX X.prog X.w) X E := fun pins σ H s e s' I q => by
  obtain ⟨a, B, H', cls, d, _, _, _, _, _, _, _, q⟩ := q
  exact absurd q (h _ _ _)
theorem de_callH {j : Nat} (g : Good X Wx k) (T : Has X.prog X.w X.K X.mg X.base x ps j df) (hj : j ≤ k) (ha : DAs X Wx (e :: es) ws)
    (hg : Gl X x := by rfl) (hdb : (x == ("__debug__" : Str)) = false := by decide) (he : starEach (e :: es) X.env = (false, eval e X.env) :: starEach es X.env := by rfl) (hpl : (backTo pos (starEach es X.env)).any (·.1) = false := by rfl) :
    DE X Wx (.Call (.Name x p) (e :: es) [] pos) (dCall df ws) := by
  obtain ⟨f, fd, F, hm, hk, hb⟩ := T.ex
  exact de_call g F hj hm hk hb ha hg hdb he hpl
theorem de_call0 {j : Nat} (g : Good X Wx k) (T : Has X.prog X.w X.K X.mg X.base x ps j df) (hj : j ≤ k) (ha : DAs X Wx (e :: es) ws)
    (hg : Gl X x := by rfl) (hdb : (x == ("__debug__" : Str)) = false := by decide) (he : starEach (e :: es) X.env = (false, eval e X.env) :: starEach es X.env := by rfl) (hpl : (backTo pos (starEach es X.env)).any (·.1) = false := by rfl) :
    DE X Wx (.Call (.Name x p) (e :: es) [] pos) (dCall0 df ws) := by
  obtain ⟨f, fd, F, hm, hk, hb⟩ := T.ex
  refine pe_imp (fun σ H Q ⟨G, α, Γ, O, R, xe, sl, rel, h, p, xp⟩ => ?_) (pe_call (E := fun _ _ _ => False) F (g.rm.mono hj) hg hm hk hb .nil (no_exnN fun _ _ _ z => z) ha hdb he hpl)
  refine ⟨G, α, Γ, O, _, xe, sl, rel, h, fun vs O1 h1 us G1 α1 H1 e1 p1 rel1 r1 => ?_, xp⟩
  show liftF X.K X.mg df (us ++ []) H1 Q _
  rw [List.append_nil]
  exact ⟨G1, α1, vs, O1, R, _, r1, rel1, h1, p.mono e1 p1, fun ex O2 h2 cls d G2 α2 H2 e2 p2 rel2 xo => h2.elim⟩
/-! #### -x -/
def dNeg (wa : DEx) : DEx := fun Γ O R xe => wa Γ O (fun r O1 => match r with
  | .d (.int i) => R (.d (.int (-i))) O1
  | _ => False) xe
theorem de_neg (ha : DE X Wx a wa) : DE X Wx (.UnaryOp .USub a pos) (dNeg wa) := by
  refine pe_imp (fun σ H Q ⟨G, α, Γ, O, R, xe, sl, rel, h, p, xp⟩ => ?_) (pe_un un_neg ha)
  refine ⟨G, α, Γ, O, _, xe, sl, rel, h, fun x O1 h1 u G1 α1 H1 e1 p1 rel1 r1 => ?_, xp⟩
  dsimp only at h1
  split at h1
  · next i =>
    cases r1
    exact ⟨i, rfl, p _ _ h1 _ _ _ _ e1 p1 rel1 (.int _)⟩
  · exact h1.elim
/-! #### operators by the place in the text -/
theorem op_eqG (g : Good X Wx k) : OpR X (compareOp .Eq) (rEqD X.K) := op_eqD (by have := g.rm.un; omega)
theorem op_neG (g : Good X Wx k) : OpR X (compareOp .NotEq) (rNeD X.K) := op_neD (by have := g.rm.un; omega)
/-- <, > of ints or of data -/
def dLt2 : D2 := fun x y O R => match x, y with
  | .d (.int i), .d (.int j) => R (.d (.bool (decide (i < j)))) O
  | x, y => dLtD (fun d e => PySem.W.dataLt d e) x y O R
def dGt2 : D2 := fun x y O R => match x, y with
  | .d (.int i), .d (.int j) => R (.d (.bool (decide (j < i)))) O
  | x, y => dLtD (fun d e => PySem.W.dataLt e d) x y O R
theorem s_lt2 {K : Fg} {mg : Str → Option Value} : OpS K mg dLt2 (fun x y H Q => rI0 (fun i j => .bl (decide (i < j))) x y H Q ∨ rLtD K (fun d e => PySem.W.dataLt d e) x y H Q) := by
  intro G α O H x y u v R Q rel r1 r2 h p
  unfold dLt2 at h
  split at h
  · cases r1; cases r2
    exact .inl ⟨_, _, rfl, rfl, p.here h rel (.bl _)⟩
  · exact .inr (s_ltD _ _ _ _ _ _ _ _ _ _ rel r1 r2 h p)
theorem s_gt2 {K : Fg} {mg : Str → Option Value} : OpS K mg dGt2 (fun x y H Q => rI0 (fun i j => .bl (decide (j < i))) x y H Q ∨ rLtD K (fun d e => PySem.W.dataLt e d) x y H Q) := by
  intro G α O H x y u v R Q rel r1 r2 h p
  unfold dGt2 at h
  split at h
  · cases r1; cases r2
    exact .inl ⟨_, _, rfl, rfl, p.here h rel (.bl _)⟩
  · exact .inr (s_ltD _ _ _ _ _ _ _ _ _ _ rel r1 r2 h p)
theorem op_lt2 (g : Good X Wx k) : OpR X (compareOp .Lt) (fun x y H Q => rI0 (fun i j => .bl (decide (i < j))) x y H Q ∨ rLtD X.K (fun d e => PySem.W.dataLt d e) x y H Q) := or_op op_lt (op_ltD (hu100 g.rm))
theorem op_gt2 (g : Good X Wx k) : OpR X (compareOp .Gt) (fun x y H Q => rI0 (fun i j => .bl (decide (j < i))) x y H Q ∨ rLtD X.K (fun d e => PySem.W.dataLt e d) x y H Q) := or_op op_gt (op_gtD (hu100 g.rm))
/-! #### len(set(texts)) -/
def dLenSet (wa : DEx) : DEx := fun Γ O R xe => wa Γ O (fun x O1 => match asL x O1 with
  | some ws => (match datas ws with
    | some ds => (match strsD ds with
      | some ys => ys.length ≤ 1000 ∧ R (.d (.int ((met ys).length : Nat))) O1
      | none => False)
    | none => False)
  | none => False) xe
/-! #### is of truth values and None, whatever stands there -/
def dIs2 (neg : Bool) : D2 := fun x y O R => match y with
  | .d .none => R (.d (.bool (if neg then !isNone x else isNone x))) O
  | .d (.bool b) => (match x with
    | .d (.bool a) => R (.d (.bool (if neg then !decide (a = b) else decide (a = b)))) O
    | _ => False)
  | _ => False
/-! #### an except clause, its class by name -/
theorem dt_chain {op op' : CmpOp} {f f' : D2} {r r' : R2} (ho : OpR X (compareOp op) r) (hs : OpS X.K X.mg f r) (ho' : OpR X (compareOp op') r') (hs' : OpS X.K X.mg f' r') (ha : DE X Wx a wa) (hb : DE X Wx b wb) (hc : DE X Wx c wc)
    (hm : lastMarks [op, op'] [b, c] = false := by with_unfolding_all rfl) : DTt X Wx (.Compare a [op, op'] [b, c] pos) (dB (dChain f f' wa wb wc)) := by
  refine pt_imp (fun σ H Q ⟨G, α, Γ, O, R, xe, sl, rel, h, p, xp⟩ => ?_) (pt_chain ho ho' ha hb hc hm)
  refine ⟨G, α, Γ, O, _, xe, sl, rel, h, fun x O1 h1 u G1 α1 H1 e1 p1 rel1 r1 => ?_, xp⟩
  refine ⟨G1, α1, Γ, O1, _, xe, sl.mono e1 p1, rel1, h1, fun y O2 h2 v G2 α2 H2 e2 p2 rel2 r2 => ?_, xp.mono e1 p1⟩
  refine hs G2 α2 O2 H2 x y u v _ _ rel2 (r1.mono e2 p2) r2 h2 fun z O3 h3 q G3 α3 H3 e3 p3 rel3 r3 => ?_
  have e13 := e1.trans (e2.trans e3)
  have p13 := p1.trans (p2.trans p3)
  split at h3
  · next t =>
    cases r3
    refine ⟨t, rfl, ?_⟩
    split at h3
    · next ct =>
      rw [if_pos ct]
      refine ⟨G3, α3, Γ, O3, _, xe, sl.mono e13 p13, rel3, h3, fun w O4 h4 q' G4 α4 H4 e4 p4 rel4 r4 => ?_, xp.mono e13 p13⟩
      refine hs' G4 α4 O4 H4 y w v q' _ _ rel4 (r2.mono (e3.trans e4) (p3.trans p4)) r4 h4 fun z5 O5 h5 v5 G5 α5 H5 e5 p5 rel5 r5 => ?_
      split at h5
      · next tb =>
        cases r5
        exact ⟨tb, rfl, p _ _ h5 _ _ _ (e13.trans (e4.trans e5)) (p13.trans (p4.trans p5)) rel5⟩
      · exact h5.elim
    · next ct =>
      rw [if_neg ct]
      exact ⟨false, rfl, p _ _ h3 _ _ _ e13 p13 rel3⟩
  · exact h3.elim
/-! #### the end -/
theorem all_cons {α : Type} {p : α → Prop} {a : α} {l : List α} (h : p a) (t : ∀ x ∈ l, p x) : ∀ x ∈ a :: l, p x := fun x hx => by
  rcases List.mem_cons.mp hx with rfl | hx
  · exact h
  · exact t x hx
theorem no_cx {P : Program} {w : World} {o : List Env} {H : Hp} {s s' : Shared} {e : Value} (z : LM.CX true P w o H s (fun _ _ _ => False) e s') : False := by
  obtain ⟨_, _, _, _, _, _, _, _, _, _, _, _, _, _, z⟩ := z
  exact z
theorem law_in {K : Fg} {mg : Str → Option Value} {df : DFn} {vs : List V} {H : Hp} {Q : VK} {E : XK} (hT : ∀ p ∈ TabsC.T, H p.1 = some (.tbl #[])) (hlaw : ∀ (ns : List Int), ns.length ≤ 63 → ∀ (R : DK) (xe : Exn → Oh → Prop), (∀ O', R (.d (.bool true)) O') → df [.d (.dict [(.none, .list (ns.map PyData.int))])] [] R xe)
    (h : ∃ (a : Addr) (ns : List Int), vs = [.ref a] ∧ SqL K H a (ns.map V.int) ∧ ns.length ≤ 63 ∧ ∀ H', Q (.bl true) H') : liftF K mg df vs H Q E := by
  obtain ⟨a, ns, rfl, hS, hl, q⟩ := h
  have keep : ∀ {b : Addr} {u : HO}, H b = some u → (∀ ps, u ≠ .tbl ps) → (if b ∈ TabsC.T.map Prod.fst then none else H b) = some u := fun {b u} e n => by
    by_cases z : b ∈ TabsC.T.map Prod.fst
    · obtain ⟨p, hp, rfl⟩ := List.mem_map.mp z
      rw [hT p hp] at e
      cases e
      exact absurd rfl (n _)
    · rw [if_neg z]; exact e
  have hS' : SqL K (fun b => if b ∈ TabsC.T.map Prod.fst then none else H b) a (ns.map V.int) := by
    rcases hS with (e | ⟨ob, e⟩) | z
    · exact .inl (.inl (keep e fun ps z => by cases z))
    · exact .inl (.inr ⟨ob, keep e fun ps z => by cases z⟩)
    · exact .inr z
  refine ⟨fun b => if b ∈ TabsC.T.map Prod.fst then none else H b, ⟨[], []⟩, [.d (.dict [(.none, .list (ns.map PyData.int))])], [], fun r _ => r = .d (.bool true), fun _ _ => False, .cons (.scr ns hS') .nil, ⟨fun b u e => ?_, rfl, List.nodup_nil, fun _ h => (nomatch h), fun k a c h => absurd h (by show ¬ (([] : List Addr)[k]? = some a); simp), fun p h => (nomatch h), fun p hp => ⟨if_pos (List.mem_map.mpr ⟨p, hp, rfl⟩), ⟨fun z => (nomatch z), fun q z => (nomatch z)⟩, #[], hT p hp, trivial, fun pos cv z => ?_⟩⟩, hlaw ns hl _ _ fun _ => rfl, fun r O' e v G' α' H' _ _ _ rv => ?_, fun ex O' z => z.elim⟩
  · by_cases z : b ∈ TabsC.T.map Prod.fst
    · have e : (if b ∈ TabsC.T.map Prod.fst then none else H b) = some u := e
      rw [if_pos z] at e; cases e
    · have e : (if b ∈ TabsC.T.map Prod.fst then none else H b) = some u := e
      rw [if_neg z] at e; exact e
  · cases z
  · subst e
    cases rv
    exact q H'
/-! #### constants of the module -/
theorem de_gint {x : Str} {i : Int} (h : ∃ t, X.mg x = some (.int i t)) (hg : Gl X x := by rfl) (hdb : (x == ("__debug__" : Str)) = false := by decide) : DE X Wx (.Name x pos) (dC (.int i)) := by
  obtain ⟨t, h⟩ := h
  exact de_c (pe_glob (v := .int i) hg h ⟨t, rfl⟩ (hd := hdb)) fun _ => .int _
theorem de_gstr {x z : Str} (h : ∃ t, X.mg x = some (.str z t)) (hz : PyData.strOk z = true) (hg : Gl X x := by rfl) (hdb : (x == ("__debug__" : Str)) = false := by decide) : DE X Wx (.Name x pos) (dC (.str z)) := by
  obtain ⟨t, h⟩ := h
  exact de_c (pe_glob (v := .str z) hg h ⟨t, rfl⟩ (hd := hdb)) fun _ => .str _ hz
/-- a comprehension's names -/
theorem blk_ok {N : List Str} {sc scope : Scope} {own : List (Str × Nat)} (h : blkC N sc scope own = true) : BlkOk N sc scope own := blkOk_by h
end
end Dl
/-! ### list.extend, min of alike things -/
namespace Dl
open PySem PySem.Spec PyProof.Rows L2
variable [TabsC]
def dExtend : DM := fun x xs O R => match x, xs with
  | .c j, [y] => (match O[j]? with
    | some (.lst ws) => (match asL y O with
      | some us => ws.length + us.length ≤ 1000000 ∧ R (.d .none) (O.set j (.lst (ws ++ us)))
      | none => False)
    | _ => False)
  | _, _ => False
section
variable {K : Fg} {mg : Str → Option Value}
theorem s_extend : MtS K mg dExtend rExtend := by
  intro G α O H x xs v vs R Q rel r1 rl h p
  unfold dExtend at h
  split at h
  · next j y =>
    split at h
    · next ws ej =>
      split at h
      · next us eu =>
        obtain ⟨u, rfl, ru⟩ := rv1 rl
        obtain ⟨a, ha, rfl⟩ := r1
        obtain ⟨g0, as, hH, rw'⟩ := rel.at_ j a _ ha ej
        obtain ⟨b, zs, rfl, hB, rz⟩ := asL_ok rel ru eu
        exact ⟨a, b, as, zs, rfl, rfl, hH, hB, by rw [rw'.len, rz.len]; exact szl h.1, p.wr rel ha ej g0 hH (rw'.append rz) (show Rv K G α .non (.d .none) from Rp.non) h.2⟩
      · exact h.elim
    · exact h.elim
  · exact h.elim
end
/-! #### min -/
end Dl
/-! ### dict(zip(xs, ys)) -/
/-! ### a try whose body raises nothing -/
namespace Dl
open PySem PySem.Spec PyProof.Rows L2
variable [TabsC]
/-- what a dict of data is, as data -/
def frzD : List (Key × W) → Option (List (PyData × PyData))
  | [] => some []
  | (k, .d x) :: r => match frzD r with
    | some ds => some ((keyD k, x) :: ds)
    | none => none
  | _ :: _ => none
def dFrz (we : DEx) : DEx := fun Γ O R xe => we Γ O (fun x O1 => match x with
  | .c j => (match O1[j]? with
    | some (.dic kvs) => (match frzD kvs with
      | some ds => (kvs.map (·.1)).all keyOk = true ∧ R (.d (.dict ds)) (O1.set j .gone)
      | none => False)
    | _ => False)
  | _ => False) xe
end Dl
/-! ### walks along dicts that never change -/
namespace Dl
open PySem PySem.Spec PyProof.Rows L2
variable [TabsC]
section
variable {K : Fg} {mg : Str → Option Value} {G : Hp} {α : Al}
theorem RpK.get : ∀ {es : List (Key × V)} {ds : List (PyData × PyData)} {i : Nat} {q d : PyData}, RpK K G es ds → ds[i]? = some (q, d) → ∃ k v, es[i]? = some (k, v) ∧ q = keyD k ∧ keyOk k = true ∧ Rp K G v d
  | _, _, _, _, _, .nil, e => by simp at e
  | _, _, 0, _, _, .cons h0 h1 h2 _, e => by
    simp only [List.getElem?_cons_zero, Option.some.injEq, Prod.mk.injEq] at e
    obtain ⟨rfl, rfl⟩ := e
    exact ⟨_, _, rfl, h0, h1, h2⟩
  | _, _, i + 1, _, _, .cons _ _ _ t, e => by
    obtain ⟨k, v, q1, q2⟩ := RpK.get (i := i) t (by simpa using e)
    exact ⟨k, v, by simpa using q1, q2⟩
theorem RpK.len : ∀ {es : List (Key × V)} {ds : List (PyData × PyData)}, RpK K G es ds → es.length = ds.length
  | _, _, .nil => rfl
  | _, _, .cons _ _ _ t => by rw [List.length_cons, List.length_cons, RpK.len t]
end
section
variable {X : Cx} {Wx : WX} {k : Nat} {tg e : Expr} {wa : DEx} {apos cpos tpos : Pos}
def dKeysI (w : DEx) : DI := fun Γ O S xe => w Γ O (fun r O1 => match r with
  | .d (.dict kvs) => (keysD kvs).isSome = true ∧ S (kvs.map fun p => W.d p.1) (fun _ => True) O1
  | _ => False) xe
def dItemsI (w : DEx) : DI := fun Γ O S xe => w Γ O (fun r O1 => match r with
  | .d (.dict kvs) => (keysD kvs).isSome = true ∧ S (kvs.map fun p => W.p [p.1, p.2]) (fun _ => True) O1
  | _ => False) xe
end
end Dl
/-! ### more of dicts and lists -/
namespace Dl
open PySem PySem.Spec PyProof.Rows L2
variable [TabsC]
section
variable {X : Cx} {Wx : WX} {k : Nat} {a b c e o i : Expr} {wa wb wc we wo wi : DEx} {pos p2 apos cpos : Pos} {ws : DA}
/-! #### d.get(k) -/
def dGetM (wo wi : DEx) : DEx := fun Γ O R xe => wo Γ O (fun x O1 => isDictW x O1 = true ∧ wi Γ O1 (fun y O2 => dGet x y O2 (fun q => match q with
  | some w => R w O2
  | none => R (.d .none) O2)) xe) xe
/-! #### l.clear() -/
/-! #### {a: b} -/
/-! #### dict(zip(xs, ys)) -/
def mergeW (kvs more : List (Key × W)) : List (Key × W) := more.foldl (fun acc kv => putW acc kv.1 kv.2) kvs
def keysW : List W → Option (List Key)
  | [] => some []
  | x :: r => match keyW x, keysW r with
    | some q, some qs => some (q :: qs)
    | _, _ => none
/-! #### sorted(..), a list that will change -/
/-! #### a, b = e1, e2, by way of a tuple -/
end
end Dl
/-! ### a + b of lists that will change, max of whole numbers -/
/-! ### sorted(set(xs)), xs a list of texts -/
/-! ### sorted(set(xs)): the sorting, the reading -/
namespace Dl
open PySem PySem.Spec PyProof.Rows L2
variable [TabsC]
section
variable {X : Cx} {Wx : WX} {k : Nat} {a : Expr} {wa : DEx}
/-- sorted(set(xs)) -/
def dSortSet (wa : DEx) : DEx := fun Γ O R xe => wa Γ O (fun x O1 => match asL x O1 with
  | some ws => (match datas ws with
    | some ds => (match strsD ds with
      | some ys => ys.length ≤ 1000 ∧ (met ys).length < 64 ∧ R (.d (.list ((srtS (met ys)).map PyData.str))) O1
      | none => False)
    | none => False)
  | none => False) xe
end
end Dl
/-! ### for a in text -/
namespace Dl
open PySem PySem.Spec PyProof.Rows L2
variable [TabsC]
/-- a text's signs, each a text -/
def chS (s : Str) : List Str := s.cps.toList.map fun c => ⟨#[c]⟩
def dStrI (w : DEx) : DI := fun Γ O S xe => w Γ O (fun r O1 => match r with
  | .d (.str s) => S (((chS s).map PyData.str).map W.d) (fun _ => True) O1
  | _ => False) xe
theorem chS_len (s : Str) : (chS s).length = s.cps.size := by unfold chS; rw [List.length_map, Array.length_toList]
theorem strOk_ch {s z : Str} (h : PyData.strOk s = true) (hz : z ∈ chS s) : PyData.strOk z = true := by
  obtain ⟨c, hc, rfl⟩ := List.mem_map.mp hz
  unfold PyData.strOk at h ⊢
  rw [Array.all_eq_true_iff_forall_mem] at h ⊢
  intro x hx
  have : x = c := by simpa using hx
  subst this
  exact h x (by simpa using hc)
theorem sim_str {K : Fg} {mg : Str → Option Value} {G0 : Hp} {α0 : Al} {s : Str} (ok : PyData.strOk s = true) : Sim K mg (Its s) G0 α0 (((chS s).map PyData.str).map W.d) fun _ => True := by
  intro i G α O H e p rel _
  refine ⟨fun hi => by rw [List.length_map, List.length_map, chS_len] at hi; exact hi, fun w hw => ?_⟩
  rw [List.getElem?_map, List.getElem?_map] at hw
  cases hz : (chS s)[i]? with
  | none => rw [hz] at hw; cases hw
  | some z =>
    rw [hz] at hw
    cases hw
    have hm := List.mem_of_getElem? hz
    unfold chS at hz
    rw [List.getElem?_map, Array.getElem?_toList] at hz
    cases hc : s.cps[i]? with
    | none => rw [hc] at hz; cases hz
    | some c =>
      rw [hc] at hz
      cases hz
      refine ⟨(Array.getElem?_eq_some_iff.mp hc).1, fun x H' ⟨eH, c', hc', ex⟩ => ?_⟩
      rw [hc] at hc'
      cases hc'
      subst eH ex
      exact ⟨G, Ex.refl _, rel, .str _ (strOk_ch ok hm)⟩
theorem di_str {X : Cx} {Wx : WX} {tg l : Expr} {wa : DEx} (hl : DE X Wx l wa) : DIt X Wx tg l (dStrI wa) := by
  refine pi_imp (fun σ H R ⟨G, α, Γ, O, S, xe, sl, rel, h, xp, q⟩ => ?_) (pi_str hl)
  refine ⟨G, α, Γ, O, _, xe, sl, rel, h, fun x O1 h1 v G1 α1 H1 e1 p1 rel1 r1 => ?_, xp⟩
  dsimp only at h1
  split at h1
  · next s =>
    cases r1 with
    | str _ ok => exact ⟨s, rfl, q _ _ _ h1 _ _ _ _ e1 p1 rel1 (sim_str ok)⟩
  · exact h1.elim
/-! ### len of a dict -/
end Dl
/-! ### len(set(xs)), xs a tuple of texts -/
namespace Dl
open PySem PySem.Spec PyProof.Rows L2
variable [TabsC]
section
variable {X : Cx} {Wx : WX} {k : Nat} {a : Expr} {wa : DEx}
def dLenSetT (wa : DEx) : DEx := fun Γ O R xe => wa Γ O (fun x O1 => match x with
  | .d (.tuple ds) => (match strsD ds with
    | some ys => ys.length ≤ 1000 ∧ R (.d (.int ((met ys).length : Nat))) O1
    | none => False)
  | _ => False) xe
end
end Dl
/-! ### dicts whose keys are tuples -/
namespace Dl
open PySem PySem.Spec PyProof.Rows L2
variable [TabsC]
section
variable {X : Cx} {Wx : WX} {k : Nat} {es : List Expr} {ws : DA} {e a b o tg : Expr} {we wa wb wo : DEx} {pos : Pos}
/-- (a, b) as a key -/
def dTupK (ws : DA) : DEx := fun Γ O R xe => ws Γ O (fun xs O1 => match keysW xs with
  | some ks => xs.length ≤ 1000 ∧ R (.k ks) O1
  | none => False) xe
/-- its keys, tuples -/
def dKeysT (wo : DEx) : DI := fun Γ O S xe => wo Γ O (fun r O1 => match r with
  | .c j => (match O1[j]? with
    | some (.ldct od es kvs) => (kvs.all fun kv => kv.1.all keyOk) = true ∧ S (kvs.map fun kv => W.k kv.1) (fun O => O[j]? = some (.ldct od es kvs)) O1
    | _ => False)
  | _ => False) xe
end
/-! #### d.pop(key) -/
end Dl
/-! ### sorted(xs), xs tuples that differ in the two texts at their heads -/
namespace Dl
open PySem PySem.Spec PyProof.Rows L2
open PySem.W (SortsAt EachIs sortLe sortVals_each sorted_vals sorting_copy_old sortingHeap copyHeap kat_kind kat_lt kat_cons kat_yes kat_no KatLex katLex_alike each_katTups looks_reads alike dataLt sortVals)
variable [TabsC]
/-- the two texts at the head of a tuple -/
def hd2 : PyData → Option (Str × Str)
  | .tuple (.str a :: .str b :: _) => some (a, b)
  | _ => none
abbrev O2 : KeyOrd := PyProof.Rows.listOrd (PyProof.Rows.strKind).toKeyOrd
end Dl
/-! ### sorted(xs), tuples that differ in the two texts at their heads: the reading -/
namespace Dl
open PySem PySem.Spec PyProof.Rows L2
variable [TabsC]
def k2 (d : PyData) : Str × Str := (hd2 d).getD ("", "")
/-! #### what such a sort gives -/
end Dl
/-! ### a list so many times -/
/-! ### defs with defaults -/
namespace Dl
open PySem PySem.Spec PyProof.Rows L2
variable [TabsC]
structure FunT (K : Fg) (x qual : Str) (st : Stmt) (T : Addr) (its : Array Value) (f : Addr) (fd : FuncData) : Prop where
  ex : ∃ (oc : Value) (od : Option Addr) (kV doc pm : Value) (an : Option Addr) (cdv ct : Value) (osl : Array (Option Value)),
    fd = PySem.W.fnOf x qual (defArgs st) (defBody st) (defScope st) (.ref T) kV doc pm an cdv ct ∧ K.lookup f = some ⟨oc, od, .func fd, osl⟩ ∧ PySem.W.codeIn K cdv qual = true
  tx : ∃ (o : Obj) (n : Nat), K.lookup T = some o ∧ o.data = .seq its n
section
variable {P : Program} {w : World} {K : Fg} {mg : Str → Option Value} {base : Heap} {x qual : Str} {st : Stmt} {T : Addr} {its : Array Value} {f : Addr} {fd : FuncData}
/-- a call that gives the first ones; the last ones are the defaults -/
theorem FunT.binds {ps : List Str} (F : FunT K x qual st T its f fd) (ds : List Value)
    (h : ∀ (kV doc pm : Value) (an : Option Addr) (cdv ct : Value) (us : List Value), us.length + ds.length = ps.length →
      ∃ k, bindArgs (PySem.W.fnOf x qual (defArgs st) (defBody st) (defScope st) (.ref T) kV doc pm an cdv ct) ⟨us, []⟩ = seqItems? (.ref T) >>= k ∧ k (some its) = pure (ps.zip (us ++ ds))) : Binds K fd ps ds := by
  obtain ⟨oc, od, kV, doc, pm, an, cdv, ct, osl, rfl, lk, hcd⟩ := F.ex
  obtain ⟨o, n, lT, oT⟩ := F.tx
  intro s us X hl
  rw [List.length_append] at hl
  obtain ⟨k, e1, e2⟩ := h kV doc pm an cdv ct us hl
  refine BindsTo.of_looks fun M => ?_
  rw [e1]
  exact looks_items X lT oT (.of_pure e2)
end
end Dl
/-! ### sorted(d.items()), d from texts to texts: at the machine -/
/-! ### sorted(d.items()), d from texts to texts: the reading -/
namespace Dl
open PySem PySem.Spec PyProof.Rows L2
variable [TabsC]
section
variable {K : Fg} {mg : Str → Option Value} {G : Hp} {α : Al} {O : Oh} {H H' : Hp}
theorem COk.push {a l : Addr} {vs : List V} {c : Cell} (hl : H l = some (.lst vs)) (w : COk K mg G α H a c) : COk K mg G (α.push l) H a c := by
  cases c with
  | lst ys => obtain ⟨h0, vs, e, h⟩ := w; exact ⟨h0, vs, e, h.mono (Ex.refl _) Pre.push⟩
  | dic ys => obtain ⟨h0, vs, e, h⟩ := w; exact ⟨h0, vs, e, h.mono (Ex.refl _) Pre.push⟩
  | dct ys => obtain ⟨h0, vs, e, h⟩ := w; exact ⟨h0, vs, e, h.mono (Ex.refl _) Pre.push⟩
  | ldic od es ys => obtain ⟨h0, e, h⟩ := w; exact ⟨h0, e, h.mono (Ex.refl _) Pre.push⟩
  | ldct od es ys => obtain ⟨h0, e, h⟩ := w; exact ⟨h0, e, h.mono (Ex.refl _) Pre.push⟩
  | ins C ys =>
    obtain ⟨h0, Ca, dx, es, q1, q2, q3, q4, q5, h⟩ := w
    refine ⟨h0, Ca, dx, es, q1, q2, q3, q4, fun z => ?_, h.mono (Ex.refl _) Pre.push⟩
    rcases List.mem_append.mp z with z | z
    · exact q5 z
    · have : dx = l := by simpa using z
      rw [this, hl] at q3; cases q3
  | exn C fs => obtain ⟨h0, Ca, d, q1, q2, q3⟩ := w; exact ⟨h0, Ca, d, q1, q2, q3⟩
  | gone => trivial
end
end Dl
/-! ### d.setdefault, int(bool), calls that leave defaults out -/
namespace Dl
open PySem PySem.Spec PyProof.Rows L2
variable [TabsC]
def dIntB : DC := fun xs O R => match xs with
  | [.d (.bool b)] => R (.d (.int (if b then 1 else 0))) O
  | [.d (.int i)] => R (.d (.int i)) O
  | _ => False
end Dl
/-! ### xs[i], ys[j] = e1, e2 -/
/-! ### an empty dict in a tuple of texts: no -/
namespace Dl
open PySem PySem.Spec PyProof.Rows L2 PySem.SeqAt PySem.MeetsSeq PySem.AutoSeq1 PySem.Calls
variable [TabsC]
theorem str_eq_declines_dict (b : Str) (u : Tok) (l : Addr) (c : Value) (es : Array DictEntry) (n : Nat) (dd : Option Addr) (sl : Array (Option Value)) :
    Meets (Builtin.«str.__eq__» ⟨[.str b u, .ref l], []⟩) (fun _ R s => s.heap.get? l = some { cls := c, dict := dd, data := .dict es n, slots := sl } ∧ R (.ok (.ret .notImplemented)) s) :=
  .of_wp fun prog w A R s h => by obtain ⟨hp, g, d, tk, os⟩ := s; obtain ⟨hl, h⟩ := h; wp_walk using wpAny_loadPart' hl, wpAny_load hl; exact ⟨_, rfl, h⟩
theorem dict_eq_declines_str (l : Addr) (es : Array DictEntry) (n : Nat) (dd : Option Addr) (sl : Array (Option Value)) (b : Str) (u : Tok) :
    Meets (Builtin.«dict.__eq__» ⟨[.ref l, .str b u], []⟩) (fun _ R s => s.heap.get? l = some { cls := .type "dict", dict := dd, data := .dict es n, slots := sl } ∧ R (.ok (.ret .notImplemented)) s) :=
  .of_wp fun prog w A R s h => by obtain ⟨hp, g, d, tk, os⟩ := s; obtain ⟨hl, h⟩ := h; have f1 := PySem.F.sub_str_dict; wp_walk using wpAny_loadPart' hl, wpAny_load hl; exact ⟨_, rfl, h⟩
section
variable {A : Around} {s : Shared}
theorem rcAt_str_dict {l : Addr} {o : Obj} {es : Array DictEntry} {n : Nat} (b : Str) (u : Tok) (ho : s.heap.get? l = some o) (hc : o.cls = .type "dict") (hd : o.data = .dict es n) (hu : A.units < cLine) : RcAt A s (.str b u) (.ref l) false := fun prog w E Q h => by
  obtain ⟨cls, dd, data, sl⟩ := o
  simp only at hc hd
  subst hc hd
  exact rc_eq_decline_or (k := false) (typeIs_str s b u) ⟨_, ho, rfl⟩ (by decide) PySem.F.sub_dict_str PySem.F.slot_str_eq PySem.F.slot_dict_eq_refl
    (fun _ hq => call_meets PySem.F.slot_str_eq (typeIs_str s b u) PySem.F.entry_str_eq (PySem.F.args_str_eq_2 _ _) (str_eq_declines_dict b u l (.type "dict") es n dd sl) ⟨ho, hq⟩)
    (fun _ hq => call_meets PySem.F.slot_dict_eq_refl ⟨_, ho, rfl⟩ PySem.F.entry_dict_eq (PySem.F.args_dict_eq_2 _ _) (dict_eq_declines_str l es n dd sl b u) ⟨ho, hq⟩)
    (fun _ hq => wpAny_of_eq (rfl : isSame (.str b u) (.ref l) = pure false) hq) (.inr hu) h
theorem eqAt_str_dict {l : Addr} {o : Obj} {es : Array DictEntry} {n : Nat} (b : Str) (u : Tok) (ho : s.heap.get? l = some o) (hc : o.cls = .type "dict") (hd : o.data = .dict es n) (hu : A.units < cLine) : EqAt A s (.str b u) (.ref l) false := fun prog w E Q h => by
  unfold eqBool
  refine wpAny_holding ?_
  refine wpAny_ite_split (fun hab => absurd (eq_of_beq hab) nofun) (fun _ => ?_)
  exact wpAny_bind (rcAt_str_dict b u ho hc hd hu prog w E _ (wpAny_truthy_bool h))
end
end Dl
/-! ### an except suite `as n` that raises: the name goes, the exception goes on (begun) -/
/-! ### try .. except x as n: (a suite that may raise) .. else -/
/-! ### values: try .. except C as n: raise C(..) from None, else .. -/
/-! ### membership where an empty dict may stand on either side -/
namespace Dl
open PySem PySem.Spec PyProof.Rows L2 PySem.SeqAt PySem.MeetsSeq PySem.AutoSeq1 PySem.Calls
variable [TabsC]
section
variable {A : Around} {s : Shared}
theorem rcAt_dict_str {l : Addr} {o : Obj} {es : Array DictEntry} {n : Nat} (b : Str) (u : Tok) (ho : s.heap.get? l = some o) (hc : o.cls = .type "dict") (hd : o.data = .dict es n) (hu : A.units < cLine) : RcAt A s (.ref l) (.str b u) false := fun prog w E Q h => by
  obtain ⟨cls, dd, data, sl⟩ := o
  simp only at hc hd
  subst hc hd
  exact rc_eq_decline_or (k := false) ⟨_, ho, rfl⟩ (typeIs_str s b u) (by decide) PySem.F.sub_str_dict PySem.F.slot_dict_eq_refl PySem.F.slot_str_eq
    (fun _ hq => call_meets PySem.F.slot_dict_eq_refl ⟨_, ho, rfl⟩ PySem.F.entry_dict_eq (PySem.F.args_dict_eq_2 _ _) (dict_eq_declines_str l es n dd sl b u) ⟨ho, hq⟩)
    (fun _ hq => call_meets PySem.F.slot_str_eq (typeIs_str s b u) PySem.F.entry_str_eq (PySem.F.args_str_eq_2 _ _) (str_eq_declines_dict b u l (.type "dict") es n dd sl) ⟨ho, hq⟩)
    (fun _ hq => wpAny_of_eq (rfl : isSame (.ref l) (.str b u) = pure false) hq) (.inr hu) h
theorem eqAt_dict_str {l : Addr} {o : Obj} {es : Array DictEntry} {n : Nat} (b : Str) (u : Tok) (ho : s.heap.get? l = some o) (hc : o.cls = .type "dict") (hd : o.data = .dict es n) (hu : A.units < cLine) : EqAt A s (.ref l) (.str b u) false := fun prog w E Q h => by
  unfold eqBool
  refine wpAny_holding ?_
  refine wpAny_ite_split (fun hab => absurd (eq_of_beq hab) nofun) (fun _ => ?_)
  exact wpAny_bind (rcAt_dict_str b u ho hc hd hu prog w E _ (wpAny_truthy_bool h))
end
/-- x in ts: x may be an empty dict, if ts is a list of texts -/
def dInL : D2 := fun x y O R => match x, y with
  | .d (.dict []), .d (.list ds) => (match strsD ds with
    | some _ => R (.d (.bool false)) O
    | none => False)
  | x, y => dIn2 false x y O R
def oE : PyData → Bool
  | .dict [] => true
  | d => shp 39 d
/-- x not in ts: a text in a tuple that may hold empty dicts -/
def dNiO : D2 := fun x y O R => match x, y with
  | .d (.str i), .d (.tuple ds) => ds.all oE = true ∧ R (.d (.bool (!(ds.any fun z => PyData.eqv z (.str i))))) O
  | x, y => dIn2 true x y O R
end Dl
/-! ### a >= b, of texts -/
/-! ### a comprehension along zip of two lists while an exception is handled: at the machine -/
namespace Dl
open PySem PySem.Spec PyProof.Rows L2 HotX L2H
open LM (HotL)
variable [TabsC]
/-- the exception that is handled: its context is None, or one whose context is None -/
def HotB (A : Around) (x1 : Addr) (h : Heap) : Prop := A.handled = some (.ref x1) ∧ ∃ (o : Obj) (vs : Array Value), h.get? x1 = some o ∧ o.data = .fields vs ∧
  (vs[2]? = some .none ∨ ∃ (y : Addr) (oy : Obj) (vy : Array Value), vs[2]? = some (.ref y) ∧ h.get? y = some oy ∧ oy.data = .fields vy ∧ vy[2]? = some .none)
section
variable {prog : Program} {w : World} {A : Around} {E : Value → Shared → Prop} {s : Shared}
/-- what is kept of the heap keeps it hot -/
theorem HotB.keep {x1 : Addr} {h h' : Heap} (hot : HotB A x1 h) (k : ∀ b o vs, h.get? b = some o → o.data = .fields vs → (b = x1 ∨ ∃ o1 v1, h.get? x1 = some o1 ∧ o1.data = .fields v1 ∧ v1[2]? = some (.ref b)) → h'.get? b = some o) : HotB A x1 h' := by
  obtain ⟨hh, o, vs, e, d, c⟩ := hot
  refine ⟨hh, o, vs, k _ _ _ e d (.inl rfl), d, c.imp id fun ⟨y, oy, vy, c1, hy, dy, cy⟩ => ⟨y, oy, vy, c1, k _ _ _ hy dy (.inr ⟨o, vs, e, d, c1⟩), dy, cy⟩⟩
end
/-! #### iterators there -/
/-! #### the comprehension -/
end Dl
/-! ### values: several clauses, isinstance of what is handled, defs called within a suite -/
namespace Dl
open PySem PySem.Spec PyProof.Rows L2
open LM (HotL)
variable [TabsC]
/-! #### a def called while an exception is handled: at the machine -/
structure FnP (P : Program) (w : World) (K : Fg) (mg : Str → Option Value) (base : Heap) (CX : CXT) (k : Nat) (f : Addr) (fd : FuncData) (ps : List Str) (sp : Sp) (l : List (Addr × Obj)) : Prop where
  len : ∀ vs H Q E, sp vs H Q E → vs.length = ps.length
  run : ∀ (A : Around) (outer : List Env) (s : Shared) (H : Hp) (args : Args) (us : List Value) (vs : List V) (Q : VK) (E : XK), L2H.RoomH k A → HotL A l → (∀ p ∈ l, L2H.PinOk outer H s p) → Env0 P w K mg base A outer s H → BindsTo s fd args (ps.zip us) → Vals vs us → sp vs H Q E →
    codeAny (model P w) A (.call (.ref f) args) (CR CX outer P w H s Q E) s
/-- a place where an exception is handled -/
structure GoodH (X : Cx) (k : Nat) (l : List (Addr × Obj)) : Prop where
  hot : HotL X.A l
  sub : ∀ q ∈ l, q ∈ X.pn
  rm : L2H.RoomH k X.A
  nd : X.N.Nodup
/-- .. of the class nm, at a -/
structure ExH (X : Cx) (k : Nat) (nm : Str) (a : Addr) (d : Option Addr) (l : List (Addr × Obj)) : Prop where
  g : GoodH X k l
  ex : ∃ oe C r, l = (a, oe) :: r ∧ X.mg nm = some (.ref C) ∧ Zc (.ref C) d oe ∧ ∃ vs, oe.data = .fields vs
theorem GoodH.mono {X : Cx} {j k : Nat} {l : List (Addr × Obj)} (g : GoodH X k l) (h : j ≤ k) : GoodH X j l := ⟨g.hot, g.sub, g.rm.mono h, g.nd⟩
theorem FnP.mono {P : Program} {w : World} {K : Fg} {mg : Str → Option Value} {base : Heap} {CX : CXT} {j k : Nat} {f : Addr} {fd : FuncData} {ps : List Str} {sp : Sp} {l : List (Addr × Obj)} (F : FnP P w K mg base CX j f fd ps sp l) (h : j ≤ k) : FnP P w K mg base CX k f fd ps sp l :=
  ⟨F.len, fun A outer s H args us vs Q E hr => F.run A outer s H args us vs Q E (hr.mono h)⟩
/-! #### isinstance of what is handled -/
/-- of each of these classes: what isinstance asks -/
structure XIs (K : Fg) (mg : Str → Option Value) (cs : List Str) (D : Str) : Prop where
  ex : ∃ DA, mg D = some (.ref DA) ∧ ∀ nm ∈ cs, ∀ C, mg nm = some (.ref C) → PySem.W.kitOne K (.ref C) (.ref DA) = some (nm == D)
theorem sub_self {K : Fg} {C : Addr} {b : Bool} (h : PySem.W.selfFirst K C = true) (e : PySem.W.subIn K (.ref C) (.ref C) = some b) : b = true := by
  unfold PySem.W.selfFirst at h
  have e : PySem.W.mroIn K C (.ref C) = some b := e
  unfold PySem.W.mroIn at e
  cases hc : PySem.W.clsIn K C with
  | none => rw [hc] at h; cases h
  | some cd =>
    rw [hc] at h e
    have h : (cd.mro.head? == some (Value.ref C)) = true := h
    have e : (if cd.mro.isEmpty then none else some (cd.mro.contains (.ref C))) = some b := e
    have h := beq_iff_eq.mp h
    cases hm : cd.mro with
    | nil => rw [hm] at h; cases h
    | cons v r =>
      rw [hm] at h e
      cases h
      simp at e
      exact e
end Dl
/-! ### values: what may stand in a suite, in a def that is called there -/
namespace Dl
open PySem PySem.Spec PyProof.Rows L2
open LM (HotL)
variable [TabsC]
section
variable {X Y : Cx} {Wx : WX} {k : Nat} {a b c e o : Expr} {wa wb wc we wo : DEx} {pos p2 p apos : Pos} {ws : DA} {es : List Expr} {nm : Str} {q : Addr} {d : Option Addr} {l : List (Addr × Obj)}
theorem ExH.mem (x : ExH Y k nm q d l) : ∃ oe C, (q, oe) ∈ Y.pn ∧ Y.mg nm = some (.ref C) ∧ Zc (.ref C) d oe ∧ ∃ vs, oe.data = .fields vs := by
  obtain ⟨oe, C, r, e, h1, h2, h3⟩ := x.ex
  exact ⟨oe, C, x.g.sub _ (by rw [e]; exact List.mem_cons_self), h1, h2, h3⟩
/-! #### isinstance -/
/-- isinstance(e, D), e of the class nm -/
def dIsX (nm D : Str) (q : Addr) (d : Option Addr) (we : DEx) : DEx := fun Γ O R xe => we Γ O (fun x O1 => match x with
  | .o b d' fs => b = q ∧ d' = d ∧ R (.d (.bool (nm == D))) O1
  | _ => False) xe
def dIsV (q : Addr) (d : Option Addr) (we : DEx) : DEx := fun Γ O R xe => we Γ O (fun x O1 => match x with
  | .o b d' fs => b = q ∧ d' = d ∧ R (.d (.bool true)) O1
  | _ => False) xe
/-- isinstance(e, (D, ..)) -/
def dIsXT (nm : Str) (Ds : List Str) (q : Addr) (d : Option Addr) (we : DEx) : DEx := fun Γ O R xe => we Γ O (fun x O1 => match x with
  | .o b d' fs => b = q ∧ d' = d ∧ R (.d (.bool (Ds.contains nm))) O1
  | _ => False) xe
/-- the classes of a tuple -/
inductive ClsT (Y : Cx) (cs : List Str) : List Expr → List Str → List Addr → Prop
  | nil : ClsT Y cs [] [] []
  | cons {D : Str} {pD : Pos} {DA : Addr} {es : List Expr} {Ds : List Str} {As : List Addr} (T : XIs Y.K Y.mg cs D) (hD : Y.mg D = some (.ref DA)) (hg : Gl Y D) (hdb : (D == ("__debug__" : Str)) = false) (hs : starEach (.Name D pD :: es) Y.env = (false, eval (.Name D pD) Y.env) :: starEach es Y.env) (r : ClsT Y cs es Ds As) :
      ClsT Y cs (.Name D pD :: es) (D :: Ds) (DA :: As)
theorem ClsT.any {cs : List Str} {C : Addr} (hn : nm ∈ cs) (hC : Y.mg nm = some (.ref C)) : ∀ {es : List Expr} {Ds : List Str} {As : List Addr}, ClsT Y cs es Ds As → PySem.W.kitAny Y.K (.ref C) (As.map Value.ref) = some (Ds.contains nm)
  | _, _, _, .nil => rfl
  | _, _, _, .cons (D := D) (Ds := Ds) T hD hg hdb hs r => by
    obtain ⟨DA', hD', hk⟩ := T.ex
    rw [hD] at hD'
    cases hD'
    have h1 := hk nm hn C hC
    have h2 := r.any hn hC
    rw [List.map_cons]
    unfold PySem.W.kitAny
    rw [h1]
    rw [List.contains_cons]
    cases z : (nm == D) with
    | true => rfl
    | false => exact h2
/-! #### e.f where e is of the class C0 -/
/-! #### a def that is called there -/
end
end Dl
/-! ### values: a comprehension along zip while an exception is handled; tries of several clauses -/
namespace Dl
open PySem PySem.Spec PyProof.Rows L2
open LM (HotL)
variable [TabsC]
/-- a list of data, as it stands: data, or a cell while it stays -/
def snapW (x : W) (O : Oh) : Option (List PyData × (Oh → Prop)) := match x with
  | .d (.list ds) => some (ds, fun _ => True)
  | .c k => match O[k]? with
    | some (.lst ws) => match datas ws with
      | some ds => some (ds, fun O' => O'[k]? = some (.lst ws))
      | none => none
    | _ => none
  | _ => none
def dZipL (ws : DA) : DI := fun Γ O S xe => ws Γ O (fun xs O1 => match xs with
  | [x, y] => match snapW x O1, snapW y O1 with
    | some (ds, ok), some (es, ok') => S (zipW ds es) (fun O => ok O ∧ ok' O) O1
    | _, _ => False
  | _ => False) xe
/-! #### try .. except .. except .. else -/
/-- a clause: which classes it takes, the name's slot, the suite by the class, the place and the dict of what is handled -/
abbrev HK := List (Str × Bool) × Option Nat × (Str → Addr → Option Addr → DSt)
def endsK (i : Option Nat) (D : DEnds) : DEnds := match i with
  | none => D
  | some i => { D with nx := fun Γ1 O1 => D.nx (Γ1.set i none) O1, bk := fun Γ1 O1 => D.bk (Γ1.set i none) O1, ct := fun Γ1 O1 => D.ct (Γ1.set i none) O1 }
def nameK (i : Option Nat) (Γ : Gm) (w : W) : Gm := match i with
  | none => Γ
  | some i => Γ.set i (some w)
def dHs : List HK → DEnds → DX → Exn → Gm → Oh → Prop
  | [], _, xe, ex, Γ, O => xe ex Γ O
  | (subs, i, s) :: r, D, xe, ex, Γ, O => match subs.lookup ex.cls with
    | some true => ∀ a d, s ex.cls a d (endsK i D) X0 (nameK i Γ (.o a d ex.fs)) O
    | some false => dHs r D xe ex Γ O
    | none => False
def dTryK (hs : List HK) (body els : DSt) : DSt := fun D xe Γ O => body { D with nx := els D xe } (dHs hs D xe) Γ O
end Dl
/-! ### x not in a list of texts, x an empty dict -/
namespace Dl
open PySem PySem.Spec PyProof.Rows L2
variable [TabsC]
def dNiL : D2 := fun x y O R => match x, y with
  | .d (.dict []), .d (.list ds) => (match strsD ds with
    | some _ => R (.d (.bool true)) O
    | none => False)
  | x, y => dIn2 true x y O R
end Dl
namespace Dl
open PySem PySem.Spec PyProof.Rows L2
variable [TabsC]
/-! ### a walk along the items of a dict with tuples as keys -/
/-- the values that are data -/
def qsW : List (List Key × W) → Option (List (List Key × PyData))
  | [] => some []
  | (q, .d x) :: r => match qsW r with
    | some xs => some ((q, x) :: xs)
    | none => none
  | _ :: _ => none
/-- ks, x for ks, x in d.items() -/
def dItemsT (wo : DEx) : DI := fun Γ O S xe => wo Γ O (fun r O1 => match r with
  | .c j => (match O1[j]? with
    | some (.ldct od es kvs) => (match qsW kvs with
      | some xs => (xs.all fun p => p.1.all keyOk) = true ∧ S (xs.map fun p => W.q p.1 p.2) (fun O => O[j]? = some (.ldct od es kvs)) O1
      | none => False)
    | _ => False)
  | _ => False) xe
end Dl
namespace Dl
open PySem PySem.Spec PyProof.Rows L2
open PySem.W (SortsAt EachIs sortLe sortVals_each)
variable [TabsC]
section
variable {X : Cx}
/-! #### sorted(d.items()) of a dict from texts to whole numbers -/
abbrev tiD (p : Str × Int) : PyData := .tuple [.str p.1, .int p.2]
end
def strInts : List (PyData × PyData) → Option (List (Str × Int))
  | [] => some []
  | (.str a, .int b) :: r => (match strInts r with
    | some ks => some ((a, b) :: ks)
    | none => none)
  | _ => none
/-- sorted(d.items()) of a frozen dict from texts to whole numbers: a list that may change -/
def dSrtN (wo : DEx) : DEx := fun Γ O R xe => wo Γ O (fun x O1 => match x with
  | .d (.dict kvs) => (match strInts kvs with
    | some ks => (keysD kvs).isSome = true ∧ ks.length ≤ 1000 ∧ alikeB (ks.map tiD) = true ∧ sortableB (ks.map tiD) = true ∧ (∀ p ∈ ks, PyData.strOk p.1 = true) ∧ R (.c O1.length) (O1 ++ [.lst ((srtD (ks.map tiD)).map W.d)])
    | none => False)
  | _ => False) xe
end Dl
namespace Dl
open PySem PySem.Spec PyProof.Rows L2
variable [TabsC]
/-! ### instances: fields, methods, making -/
theorem RK.get {K : Fg} {G : Hp} {α : Al} {f : Str} {w : W} : ∀ {es : List (Str × V)} {fs : List (Str × W)}, RK K G α es fs → fs.lookup f = some w → ∃ v, es.lookup f = some v ∧ Rv K G α v w
  | _, _, .nil, h => by cases h
  | (a, v) :: es, (b, w') :: fs, .cons r t, h => by
    obtain ⟨e, rv⟩ := r
    have e : a = b := e
    subst e
    rw [List.lookup_cons] at h ⊢
    cases z : f == a with
    | true =>
      rw [z] at h
      cases h
      exact ⟨v, rfl, rv⟩
    | false =>
      rw [z] at h
      exact RK.get t h
def putFW (f : Str) (v : W) : List (Str × W) → List (Str × W)
  | [] => [(f, v)]
  | (g, x) :: r => if g = f then (g, v) :: r else (g, x) :: putFW f v r
section
variable {X : Cx} {Wx : WX} {k : Nat} {o e value : Expr} {f m C : Str} {pos pos' apos p : Pos} {w wa wv : DEx} {fl ps : List Str} {es : List Expr} {ws : DA} {df : DFn}
/-- o.f -/
def dFld (C f : Str) (w : DEx) : DEx := fun Γ O R xe => w Γ O (fun x O1 => match x with
  | .c j => (match O1[j]? with
    | some (.ins C' fs) => (match fs.lookup f with
      | some v => C' = C ∧ R v O1
      | none => False)
    | _ => False)
  | _ => False) xe
/-- o.f = value -/
def dSetF (C f : Str) (wa wv : DEx) : DSt := fun D xe Γ O => wv Γ O (fun y O1 => wa Γ O1 (fun x O2 => match x with
  | .c j => (match O2[j]? with
    | some (.ins C' fs) => C' = C ∧ fs.length < 1000 ∧ D.nx Γ (O2.set j (.ins C (putFW f y fs)))
    | _ => False)
  | _ => False) xe) xe
/-! #### methods -/
/-- o.m(e, ..) -/
def dMeth (C m : Str) (f : DFn) (wa : DEx) (ws : DA) : DEx := fun Γ O R xe => wa Γ O (fun x O1 => match x with
  | .c j => (match O1[j]? with
    | some (.ins C' fs) => (match fs.lookup m with
      | some _ => False
      | none => C' = C ∧ ws Γ O1 (fun vs O2 => f (.c j :: vs) O2 R fun ex O3 => xe ex Γ O3) xe)
    | _ => False)
  | _ => False) xe
/-! #### making -/
/-- C(e, ..) -/
def dMake (C : Str) (f : DFn) (ws : DA) : DEx := fun Γ O R xe => ws Γ O (fun vs O1 => f (.c O1.length :: vs) (O1 ++ [.ins C []]) (fun r O2 => match r with
  | .d .none => R (.c O1.length) O2
  | _ => False) fun ex O2 => xe ex Γ O2) xe
end
/-! #### a def all cells of which stay -/
end Dl
namespace Dl
open PySem PySem.Spec PyProof.Rows L2
variable [TabsC]
/-! ### dict(pairs) of a tuple; xs.pop(); xs.index(tuple); a module's tuple -/
/-! #### xs.pop() -/
/-! #### xs.index(x), x any data -/
/-! #### a module's tuple of texts -/
theorem fnOk_no {P : Program} {w : World} {K : Fg} {mg : Str → Option Value} {base : Heap} {CX : CXT} {k : Nat} {f : Addr} {fd : FuncData} {ps : List Str} : FnOk P w K mg base CX k f fd ps (liftF K mg fun _ _ _ _ => False) :=
  ⟨fun _ _ _ _ ⟨_, _, _, _, _, _, _, _, h, _⟩ => h.elim, fun _ _ _ _ _ _ _ _ _ _ _ _ _ ⟨_, _, _, _, _, _, _, _, h, _⟩ => h.elim⟩
end Dl
namespace Dl
open PySem PySem.Spec PyProof.Rows L2
variable [TabsC]
/-! ### a list of tuples that are keys, made along a walk: it may change -/
abbrev KP (G : Hp) (v : V) (ks : List Key) : Prop := ks.all keyOk = true ∧ ∃ a, v = .ref a ∧ G a = some (.tup (ks.map kV))
abbrev KPs (G : Hp) (vs : List V) (kss : List (List Key)) : Prop := Paired (fun v ks => KP G v ks) vs kss
theorem KPs.mono {G G' : Hp} (e : Ex G G') : ∀ {vs : List V} {kss : List (List Key)}, KPs G vs kss → KPs G' vs kss
  | _, _, .nil => .nil
  | _, _, .cons ⟨h, a, e1, e2⟩ t => .cons ⟨h, a, e1, e a _ e2⟩ (KPs.mono e t)
theorem KPs.snoc {G : Hp} {v : V} {ks : List Key} (h : KP G v ks) : ∀ {vs : List V} {kss : List (List Key)}, KPs G vs kss → KPs G (vs ++ [v]) (kss ++ [ks])
  | _, _, .nil => .cons h .nil
  | _, _, .cons r t => .cons r (KPs.snoc h t)
theorem KPs.length {G : Hp} {vs : List V} {kss : List (List Key)} (h : KPs G vs kss) : vs.length = kss.length := Paired.length h
variable {X : Cx} {Wx : WX} {k : Nat} {pos : Pos}
def lcGoK (ok : Oh → Prop) (t : Tg) (tt : DT) (we : DEx) (Γ : Gm) (fin : List (List Key) → Oh → Prop) : List W → List (List Key) → Oh → Prop
  | [], acc, O => ok O ∧ fin acc O
  | x :: r, acc, O => ok O ∧ t.put x Γ fun Γ1 => tt Γ1 O (fun b O1 => if b = true then we Γ1 O1 (fun y O2 => match y with
      | .k z => acc.length < 1000000 ∧ lcGoK ok t tt we Γ fin r (acc ++ [z]) O2
      | _ => False) X0 else lcGoK ok t tt we Γ fin r acc O1) X0
/-- [e for t in w if tt], e a tuple that is a key -/
def dLcK (w : DI) (t : Tg) (tt : DT) (we : DEx) (own : List Nat) : DEx := fun Γ O R xe => w Γ O (fun xs ok O1 => lcGoK ok t tt we (wipeG Γ own) (fun acc O2 => R (.c O2.length) (O2 ++ [.lst (acc.map W.k)])) xs [] O1) xe
end Dl
/-! ### len of a dict with tuples as keys -/
/-! ### d != {} -/
/-! ### dict(zip(d, xs)) over a dict d -/
/-! ### a def that is called with no guards about: the law itself (for repr) -/
namespace Dl
open PySem PySem.Spec PyProof.Rows L2
variable [TabsC]
structure FnOkG (P : Program) (w : World) (K : Fg) (mg : Str → Option Value) (base : Heap) (CX : CXT) (k : Nat) (f : Addr) (fd : FuncData) (ps : List Str) (sp : Sp) : Prop where
  len : ∀ (vs : List V) (H : Hp) (Q : VK) (E : XK), sp vs H Q E → vs.length = ps.length
  run : ∀ (A : Around) (outer : List Env) (s : Shared) (H : Hp) (args : Args) (us : List Value) (vs : List V) (Q : VK) (E : XK), A.guards = some [] → Room k A → Env0 P w K mg base A outer s H → BindsTo s fd args (ps.zip us) → Vals vs us → sp vs H Q E → codeAny (model P w) A (Code.call (Value.ref f) args) (CR CX outer P w H s Q E) s
theorem fn_ofG {CX : CXT} {P : Program} {w : World} {K : Fg} {mg : Str → Option Value} {base : Heap} {k : Nat} {f : Addr} {name qual : Str} {params : Arguments} {body : List Stmt} {scope : Scope} {dV kV doc pm cdv ct oc : Value} {an od : Option Addr} {osl : Array (Option Value)} {N ps : List Str} {sp : Sp}
    (lk : List.lookup f K = some { cls := oc, dict := od, data := Data.func (W.fnOf name qual params body scope dV kV doc pm an cdv ct), slots := osl }) (hcd : W.codeIn K cdv qual = true) (S : FnScope N ps scope) (len : ∀ (vs : List V) (H : Hp) (Q : VK) (E : XK), sp vs H Q E → vs.length = ps.length)
    (hbody : ∀ (A : Around) (outer : List Env) (s : Shared) (H : Hp) (vs : List V) (Q : VK) (E : XK), A.guards = some [] → Room k (A.deeper (envOfC qual scope s.heap.objs.size f cdv)) → sp vs H Q E →
      ∃ t, PSs (cxOf CX P w K mg base N qual scope f cdv A outer s H E) body t ∧ t { nx := fun _ H' => Q V.non H', rt := Q } (L2.start N vs) H) :
    FnOkG P w K mg base CX (k + 1) f (W.fnOf name qual params body scope dV kV doc pm an cdv ct) ps sp where
  len := len
  run A outer s H args us vs Q E hgd hr e0 hb r hsp := by
    have hl := len vs H Q E hsp
    have KX := W.Frag.In.keeps e0.mod.kin fun b o e => (e0.bs b o e).left
    have lim := Heap.NoLimit.keeps e0.mod.nolimit fun b o e => (e0.bs b o e).left
    have hkind : ∀ x ∈ ps.zip us, List.lookup x.1 scope.names = some NameKind.local ∨ List.lookup x.1 scope.names = some NameKind.cell ∧ (List.lookup x.1 (cellsFrom (s.heap.objs.size + 1) scope.names [])).isSome = true := by
      rintro ⟨n, v⟩ hy
      rcases S.par n (List.of_mem_zip hy).left with q | q
      · exact .inl q
      · exact .inr ⟨q, W.cellsFrom_some scope.names (s.heap.objs.size + 1) [] (.inl q)⟩
    refine codeAny_call_function (Room.depth hr) (KX f _ lk) rfl S.co S.gen rfl (W.codeRec_of KX hcd) (hb _ _ _ _ ?_)
    refine wpAny_newFunctionEnv_cells S.kind hkind fun env he s1 x => ?_
    subst he
    refine ⟨Heap.NoLimit.keeps lim x.toInCall.keep, codeAny_func ?_⟩
    obtain ⟨t, ht, hq⟩ := hbody A outer s H vs Q E hgd (Room.deeper hr (envOfC qual scope s.heap.objs.size f cdv)) hsp
    have I := inv_start (CX := CX) (E := E) S hr.hd e0 hl r x
    refine wpAny_mono (ht.run [] s1 (L2.start N vs) H { nx := fun _ H' => Q V.non H', rt := Q } I hq) (fun fl s' hs => ?_) fun e s' hs => hs
    cases fl with
    | next =>
      obtain ⟨σ', H', J, q⟩ := hs
      exact ⟨V.non, H', J.os, J.bare, J.base, J.hok, rfl, q⟩
    | ret u =>
      obtain ⟨v, σ', H', J, rv, q⟩ := hs
      exact ⟨v, H', J.os, J.bare, J.base, J.hok, rv, q⟩
    | brk =>
      obtain ⟨_, _, _, q⟩ := hs
      exact q.elim
    | cont =>
      obtain ⟨_, _, _, q⟩ := hs
      exact q.elim
theorem law_callG {P : Program} {w : World} {K : Fg} {mg mb : Str → Option Value} {CX : CXT} {k : Nat} {fa a : Addr} {fd : FuncData} {x : Str} {sp : Sp} {s₁ : Shared} {vs : List Value} {ns : List Int} (KX : K.In s₁.heap) (hns : s₁.heap.Ns mainGlobals mg) (hb : s₁.heap.Ns builtinsNs mb) (hbb : ∀ x : Str, x ≠ "__name__" → mb x = bootBuiltins x)
    (hlim : s₁.heap.NoLimit) (hg : s₁.gens = #[]) (ha : s₁.heap.get? a = some { cls := Value.type "list", data := Data.seq vs.toArray }) (hi : IntsAre vs ns) (hl : ns.length ≤ sizeLine) (hr : Room k callerA) (F : ∀ base : Heap, K.In base → base.Ns mainGlobals mg → FnOkG P w K mg base CX k fa fd [x] sp)
    (hbind : ∀ (s : Shared) (u : Value), BindsTo s fd { pos := [u] } [(x, u)]) (hsp : ∀ H : Hp, Only H → SqL K H a (ns.map V.int) → sp [V.ref a] H (fun v _ => v = V.bl true) fun _ _ _ => False) (hCX : ∀ (H : Hp) (e : Value) (s' : Shared), CX [] H s₁ (fun _ _ _ => False) e s' → False) :
    codeAny (model P w) callerA (Code.call (Value.ref fa) { pos := [Value.ref a] }) (fun r s' => r = Except.ok (Flow.ret (Value.bool true)) ∧ OldK s₁.heap s'.heap ∧ s'.os = s₁.os ∧ AllBare s'.gens) s₁ := by
  have rv := vals_ints hi
  have lenV := hi.length
  have core : ∀ H : Hp, Only H → SqL K H a (ns.map V.int) → HOk P w H s₁.heap → (∀ b, H b ≠ none → b = a) → (H a ≠ none → List.lookup a K = none) → codeAny (model P w) callerA (Code.call (Value.ref fa) { pos := [Value.ref a] }) (fun r s' => r = Except.ok (Flow.ret (Value.bool true)) ∧ OldK s₁.heap s'.heap ∧ s'.os = s₁.os ∧ AllBare s'.gens) s₁ := by
    intro H hO hS hok hA hK
    have base_of : ∀ {b : Addr} {o : Obj}, s₁.heap.get? b = some o → H b = none → (hidT s₁.heap H).get? b = some o := fun e n => hidT_get e n
    have noA : ∀ {b : Addr} {o : Obj} {es : Array DictEntry} {ep : Nat}, s₁.heap.get? b = some o → o.data = Data.dict es ep → H b = none := by
      intro b o es ep e d
      cases q : H b with
      | none => rfl
      | some u =>
        have e' := hA b (by rw [q]; simp)
        subst e'
        rw [ha] at e
        cases e
        cases d
    have nsK : ∀ {b : Addr} {m : Str → Option Value}, s₁.heap.Ns b m → (hidT s₁.heap H).Ns b m := fun ⟨o, es, ep, e, d, r⟩ => ⟨o, es, ep, base_of e (noA e d), d, r⟩
    have hKb : ∀ (b : Addr) (o : Obj), List.lookup b K = some o → (hidT s₁.heap H).get? b = some o := by
      intro b o e
      refine base_of (KX b o e) ?_
      cases q : H b with
      | none => rfl
      | some u =>
        have e' := hA b (by rw [q]; simp)
        subst e'
        have := hK (by rw [q]; simp)
        rw [this] at e
        cases e
    have hM : L2.Mod K mg (hidT s₁.heap H) := { kin := hKb, glob := nsK hns, blt := ⟨mb, nsK hb, hbb⟩, nolimit := by obtain ⟨mc, h1, h2⟩ := hlim; exact ⟨mc, nsK h1, h2⟩ }
    have e0 : Env0 P w K mg (hidT s₁.heap H) callerA [] s₁ H := { frames := rfl, mod := hM, bs := fun b o e => of_hidT e, bsz := Nat.le_of_eq (hidT_size s₁.heap H), funs := trivial, frf := fun b hb => (by cases hb), hok := hok, bare := AllBare.of_eq hg }
    refine codeAny_mono ((F (hidT s₁.heap H) hKb (nsK hns)).run callerA [] s₁ H _ [.ref a] [.ref a] (fun v _ => v = V.bl true) (fun _ _ _ => False) rfl hr e0 (hbind s₁ _) (.cons rfl .nil) (hsp H hO hS)) fun r s' h => ?_
    cases r with
    | error e => exact (hCX H e s' h).elim
    | ok fl =>
      cases fl with
      | next => exact h.elim
      | brk => exact h.elim
      | cont => exact h.elim
      | ret u =>
        obtain ⟨v, H', os, bare, un, hok', r', q⟩ := h
        subst q
        refine ⟨by rw [show u = Value.bool true from r'], OldK.of_keep fun b o e => ?_, os, bare⟩
        cases q : H b with
        | none => exact un.keep b o e q (fun z => by cases z) (fun z => by cases z)
        | some u =>
          rcases hO b with z | ⟨ob, xs, z⟩
          · rw [q] at z; cases z
          · have e1 := (hok b _ z).1
            have e2 := (hok' b _ (un.frzs b ob _ z)).1
            rw [e] at e1
            cases e1
            exact e2
  cases hk : List.lookup a K with
  | none =>
    refine core (fun b => if b = a then some (.frz { cls := Value.type "list", data := Data.seq vs.toArray } (.lst (ns.map V.int))) else none) ?_ ?_ ?_ ?_ ?_
    · intro b
      by_cases z : b = a
      · exact .inr ⟨_, _, if_pos z⟩
      · exact .inl (if_neg z)
    · exact .inl (.inr ⟨_, if_pos rfl⟩)
    · intro b u z
      have z : (if b = a then some (HO.frz { cls := Value.type "list", data := Data.seq vs.toArray } (.lst (ns.map V.int))) else none) = some u := z
      by_cases hb : b = a
      · rw [if_pos hb] at z
        cases z
        subst hb
        exact ⟨ha, by rw [List.length_map]; exact hl, vs, 0, rv, ha⟩
      · rw [if_neg hb] at z
        cases z
    · intro b z
      by_cases hb : b = a
      · exact hb
      · exact absurd (if_neg hb) z
    · exact fun _ => hk
  | some o =>
    have e := KX a o hk
    rw [ha] at e
    cases e
    refine core (fun _ => none) (fun _ => .inl rfl) (.inr ⟨_, vs.toArray, 0, hk, rfl, rfl, rfl, by rw [List.size_toArray, lenV]; exact hl, rv⟩) (fun b u z => by cases z) (fun b z => absurd rfl z) fun z => absurd rfl z
theorem walk_ofG {l : W.OpenLaw} {n k : Nat} {q : Program} {loose : List Str} {XP : (Str → Option Value) → Heap → Prop} {YP : World → Heap → Prop} {d : DefRec} {K : Params → Fg} {CX : World → CXT} {sp : World → Sp} {x : Str} (hn : l.most = some n) (hn2 : n ≤ sizeLine) (hdf : d.params.defaults = []) (hr : Room k callerA)
    (hY : ∀ (w : World) (h : Heap), YP w h → (K w.params).In h)
    (F : ∀ (w : World) (mg : Str → Option Value) (fa : Addr) (h : Heap), (K w.params).In h → h.Ns mainGlobals mg → mg d.name = some (Value.ref fa) → ∃ fd, (∀ (s : Shared) (u : Value), BindsTo s fd { pos := [u] } [(x, u)]) ∧ ∀ base : Heap, (K w.params).In base → base.Ns mainGlobals mg → FnOkG l.prog w (K w.params) mg base (CX w) k fa fd [x] (sp w))
    (hsp : ∀ (w : World) (H : Hp) (a : Addr) (ns : List Int), ns.length ≤ n → Only H → SqL (K w.params) H a (ns.map V.int) → sp w [V.ref a] H (fun v _ => v = V.bl true) fun _ _ _ => False) (hCX : ∀ (w : World) (H : Hp) (s : Shared) (e : Value) (s' : Shared), CX w [] H s (fun _ _ _ => False) e s' → False) :
    W.WalkO q loose XP YP l.row.toRowW d [] fun f vs => call f vs :=
  Att.attach_call hn hdf fun w s₀ s₁ mg mb fa o pm cd doc a vs ns G Y ho hd hcd hmg hobj hints hlen hg => by
    have KX := hY w s₁.heap Y
    obtain ⟨fd, hb, hF⟩ := F w mg fa s₁.heap KX G.T.g hmg
    exact law_callG KX G.T.g G.T.b G.T.builtins G.T.nolimit hg hobj hints (Nat.le_trans hlen hn2) hr hF hb (fun H hO hS => hsp w H a ns hlen hO hS) fun H e s' => hCX w H s₁ e s'
end Dl
/-! ### repr(x), x None, a tuple or a list of data, where no guards are about -/
namespace Dl
open PySem PySem.Spec PyProof.Rows L2
variable [TabsC]
theorem ok_defZG {P : Program} {w : World} {K : Fg} {mg : Str → Option Value} {base : Heap} {x qual : Str} {st : Stmt} {f : Addr} {fd : FuncData} {N ps : List Str} {k : Nat} {b : DSt} (F : Fun K x qual st f fd) (S : FnScope N ps (defScope st))
    (hb : ∀ (cdv : Value) (A : Around) (outer : List Env) (s : Shared) (H : Hp) (E : XK), Good (cxOf (LM.CX true P w) P w K mg base N qual (defScope st) f cdv A outer s H E) (fun cls d _ H => E cls d H) k → LM.Takes true (cxOf (LM.CX true P w) P w K mg base N qual (defScope st) f cdv A outer s H E) (fun cls d _ H => E cls d H) →
      (cxOf (LM.CX true P w) P w K mg base N qual (defScope st) f cdv A outer s H E).A.guards = some [] → DSs (cxOf (LM.CX true P w) P w K mg base N qual (defScope st) f cdv A outer s H E) (fun cls d _ H => E cls d H) (defBody st) b) :
    FnOkG P w K mg base (LM.CX true P w) (k + 1) f fd ps (liftF K mg (dDef N.length ps.length b)) := by
  obtain ⟨oc, od, kV, doc, pm, an, cdv, ct, osl, rfl, lk, hcd⟩ := F.ex
  refine fn_ofG lk hcd S (fun vs H Q E h => ?_) fun A outer s H vs Q E hgd hr h => ?_
  · obtain ⟨G, α, ws, O, R, xe, r, rel, ⟨hl, _⟩, _⟩ := h
    rw [r.len, hl]
  · exact ⟨_, hb cdv A outer s H E ⟨LM.tn_of (LM.takes_of rfl rfl rfl rfl), passes_of rfl, hr, rfl, S.nd⟩ (LM.takes_of rfl rfl rfl rfl) hgd, def_in h⟩
theorem FnOkG.imp {P : Program} {w : World} {K : Fg} {mg : Str → Option Value} {base : Heap} {CX : CXT} {k : Nat} {f : Addr} {fd : FuncData} {ps : List Str} {sp sp' : Sp} (h : FnOkG P w K mg base CX k f fd ps sp) (g : ∀ (vs : List V) (H : Hp) (Q : VK) (E : XK), sp' vs H Q E → sp vs H Q E) : FnOkG P w K mg base CX k f fd ps sp' :=
  ⟨fun vs H Q E q => h.len vs H Q E (g vs H Q E q), fun A outer s H args us vs Q E hg hr e hb r q => h.run A outer s H args us vs Q E hg hr e hb r (g vs H Q E q)⟩
end Dl
/-! ### sorted(xs, key=lambda row: row[:2]), xs tuples that differ in the two texts at their heads: as a lambda is made, and called -/
/-! ### keys cut from tuples; list(d) of a dict with tuples as keys; what is done with such a list -/
namespace Dl
open PySem PySem.Spec PyProof.Rows L2
variable [TabsC]
def dSlK (x : W) (lo hi : Option Int) (O : Oh) (R : DK) : Prop := match x with
  | .d (.tuple ds) => (match keysW ((cutL ds lo hi).map W.d) with
    | some ks => ¬ (HT.sIx ds.length 0 lo = 0 ∧ HT.sIx ds.length ds.length hi = ds.length) ∧ R (.k ks) O
    | none => False)
  | _ => False
/-- x[lo:hi], a tuple that is a key -/
def dSliceK (wo : DEx) (wl wh : DO) : DEx := fun Γ O R xe => wo Γ O (fun x O1 => wl Γ O1 (fun lo O2 => wh Γ O2 (fun hi O3 => dSlK x lo hi O3 R) xe) xe) xe
def ksOf : List W → Option (List (List Key))
  | [] => some []
  | .k ks :: r => (match ksOf r with
    | some q => some (ks :: q)
    | none => none)
  | _ => none
theorem ksOf_map : ∀ kss : List (List Key), ksOf (kss.map W.k) = some kss
  | [] => rfl
  | ks :: r => by
    rw [List.map_cons]
    unfold ksOf
    rw [ksOf_map r]
/-- a list of keys != [] -/
def dNeKs : D2 := fun x y O R => match asL x O, y with
  | some ws, .d (.list []) => (match ksOf ws with
    | some kss => R (.d (.bool (!kss.isEmpty))) O
    | none => False)
  | _, _ => False
/-- a, b, c = e1, e2, e3 -/
def dPar3 (i j l : Nat) (ws : DA) : DSt := fun D xe Γ O => ws Γ O (fun vs O1 => match vs with
  | [u, v, w] => D.nx (((Γ.set i (some u)).set j (some v)).set l (some w)) O1
  | _ => False) xe
end Dl
/-! ### try .. except (A, B): a suite, no name -/
namespace LM
open PySem PySem.Spec PyProof.Rows L2
end LM
/-! ### lists of keys: in, ==, slices, remove, enumerate -/
namespace Dl
open PySem PySem.Spec PyProof.Rows L2
variable [TabsC]
instance decMemKs (q : List Key) (kss : List (List Key)) : Decidable (q ∈ kss) := @List.instDecidableMemOfLawfulBEq _ (@instBEqOfDecidableEq _ inferInstance) inferInstance q kss
/-- key in keys -/
def dInKs (neg : Bool) : D2 := fun x y O R => match x, asL y O with
  | .k q, some ws => (match ksOf ws with
    | some kss => R (.d (.bool (if neg then !decide (q ∈ kss) else decide (q ∈ kss)))) O
    | none => False)
  | _, _ => False
section
variable {K : Fg} {mg : Str → Option Value}
/-- a list of keys == [] -/
def dEqKs : D2 := fun x y O R => match asL x O, y with
  | some ws, .d (.list []) => (match ksOf ws with
    | some kss => R (.d (.bool kss.isEmpty)) O
    | none => False)
  | _, _ => False
end
section
variable {X : Cx} {Wx : WX} {k : Nat} {a b c e o : Expr} {wa wb wc we wo : DEx} {pos p2 : Pos} {ws : DA}
/-- the part of a list that may change: a list that may change -/
def dSlC (x : W) (lo hi : Option Int) (O : Oh) (R : DK) : Prop := match asL x O with
  | some ws => R (.c O.length) (O ++ [.lst (cutL ws lo hi)])
  | none => False
def dSliceC (wo : DEx) (wl wh : DO) : DEx := fun Γ O R xe => wo Γ O (fun x O1 => wl Γ O1 (fun lo O2 => wh Γ O2 (fun hi O3 => dSlC x lo hi O3 R) xe) xe) xe
/-! #### xs.remove(key) -/
/-! #### enumerate, over a list of keys -/
def enumKW (n : Nat) : List (List Key) → List W
  | [] => []
  | d :: r => .e (n : Nat) d :: enumKW (n + 1) r
def dEnumK (ws : DA) : DI := fun Γ O S xe => ws Γ O (fun xs O1 => match xs with
  | [.c j] => (match O1[j]? with
    | some (.lst ys) => (match ksOf ys with
      | some kss => S (enumKW 0 kss) (fun O => O[j]? = some (.lst ys)) O1
      | none => False)
    | _ => False)
  | _ => False) xe
end
end Dl
/-! ### values: exceptions that were made, and stand as values (cells .exn) -/
/-! ### x += e, o.f += e, d[k] += e; methods and making without arguments; d.get(k, x), d.pop(k, x) -/
namespace Dl
open PySem PySem.Spec PyProof.Rows L2
variable [TabsC]
section
variable {X : Cx} {Wx : WX} {k : Nat} {a b c e o i f value : Expr} {wa wb wc we wo wi wv : DEx} {pos p p2 pos' tpos apos cpos : Pos} {ws : DA} {fl ps : List Str} {es : List Expr} {df : DFn}
/-- o.f += e, of whole numbers -/
def dAugF (C f : Str) (wa wv : DEx) : DSt := fun D xe Γ O => wa Γ O (fun x O1 => match x with
  | .c j => (match O1[j]? with
    | some (.ins C' fs) => (match fs.lookup f with
      | some (.d (.int m)) => C' = C ∧ wv Γ O1 (fun y O2 => match y with
        | .d (.int n) => (match O2[j]? with
          | some (.ins C2 fs2) => C2 = C ∧ fs2.length < 1000 ∧ D.nx Γ (O2.set j (.ins C (putFW f (.d (.int (m + n))) fs2)))
          | _ => False)
        | _ => False) xe
      | _ => False)
    | _ => False)
  | _ => False) xe
/-- d[k] += e, of whole numbers -/
def dAugI (wo wi we : DEx) : DSt := fun D xe Γ O => wo Γ O (fun x O1 => wi Γ O1 (fun y O2 => dGet x y O2 fun q => match q with
  | some (.d (.int m)) => we Γ O2 (fun z O3 => match z with
    | .d (.int n) => (match x with
      | .c j => (match O3[j]? with
        | some (.dic kvs) => (match keyW y with
          | some q => kvs.length < 1000000 ∧ D.nx Γ (O3.set j (.dic (putW kvs q (.d (.int (m + n))))))
          | none => False)
        | _ => False)
      | _ => False)
    | _ => False) xe
  | _ => False) xe) xe
/-! #### without arguments -/
/-- o.m() -/
def dMeth0 (C m : Str) (df : DFn) (wa : DEx) : DEx := fun Γ O R xe => wa Γ O (fun x O1 => match x with
  | .c j => (match O1[j]? with
    | some (.ins C' fs) => (match fs.lookup m with
      | some _ => False
      | none => C' = C ∧ df [.c j] O1 R fun ex O3 => xe ex Γ O3)
    | _ => False)
  | _ => False) xe
/-! #### methods, some arguments of which are left out -/
/-- o.m(e, ..), the rest left out -/
def dMethD (C m : Str) (f : DFn) (ds : List W) (wa : DEx) (ws : DA) : DEx := fun Γ O R xe => wa Γ O (fun x O1 => match x with
  | .c j => (match O1[j]? with
    | some (.ins C' fs) => (match fs.lookup m with
      | some _ => False
      | none => C' = C ∧ ws Γ O1 (fun vs O2 => f (.c j :: (vs ++ ds)) O2 R fun ex O3 => xe ex Γ O3) xe)
    | _ => False)
  | _ => False) xe
/-! #### making, without arguments, or some of which are left out -/
/-- C(e, ..), the rest left out -/
def dMakeD (C : Str) (f : DFn) (ds : List W) (ws : DA) : DEx := fun Γ O R xe => ws Γ O (fun vs O1 => f (.c O1.length :: (vs ++ ds)) (O1 ++ [.ins C []]) (fun r O2 => match r with
  | .d .none => R (.c O1.length) O2
  | _ => False) fun ex O2 => xe ex Γ O2) xe
end
end Dl
/-! ### lists of any values, made along a walk -/
namespace Dl
open PySem PySem.Spec PyProof.Rows L2
variable [TabsC]
theorem RvL.hid {K : Fg} {G : Hp} {as : List Addr} {η η' : List (Addr × HO)} : ∀ {vs : List V} {ws : List W}, RvL K G ⟨as, η⟩ vs ws → RvL K G ⟨as, η'⟩ vs ws
  | _, _, .nil => .nil
  | _, _, .cons r t => .cons (Rv.mono' (Ex.refl _) (List.prefix_refl _) r) (RvL.hid t)
variable {X : Cx} {Wx : WX} {k : Nat} {pos : Pos}
def lcGoW (ok : Oh → Prop) (t : Tg) (tt : DT) (we : DEx) (Γ : Gm) (fin : List W → Oh → Prop) : List W → List W → Oh → Prop
  | [], acc, O => ok O ∧ fin acc O
  | x :: r, acc, O => ok O ∧ t.put x Γ fun Γ1 => tt Γ1 O (fun b O1 => if b = true then we Γ1 O1 (fun z O2 => acc.length < 1000000 ∧ lcGoW ok t tt we Γ fin r (acc ++ [z]) O2) X0 else lcGoW ok t tt we Γ fin r acc O1) X0
/-- [e for t in w if tt], e a tuple that is a key -/
def dLcW (w : DI) (t : Tg) (tt : DT) (we : DEx) (own : List Nat) : DEx := fun Γ O R xe => w Γ O (fun xs ok O1 => lcGoW ok t tt we (wipeG Γ own) (fun acc O2 => R (.c O2.length) (O2 ++ [.lst acc])) xs [] O1) xe
end Dl
/-! ### dict(pairs) of tuples as keys; pairs of a key and data -/
namespace Dl
open PySem PySem.Spec PyProof.Rows L2
variable [TabsC]
section
variable {X : Cx} {Wx : WX} {k : Nat} {a b c e o i f : Expr} {wa wb we wo wi : DEx} {pos p p2 apos cpos : Pos} {ws : DA} {es : List Expr}
/-- (key, data) -/
def dTupQ (ws : DA) : DEx := fun Γ O R xe => ws Γ O (fun xs O1 => match xs with
  | [.k ks, .d x] => R (.q ks x) O1
  | _ => False) xe
end
end Dl
/-! ### d.get(k, x), d.pop(k, x); a dict that is walked, wherever it stands; items of a dict with tuples as keys, or of {} -/
namespace Dl
open PySem PySem.Spec PyProof.Rows L2
variable [TabsC]
section
variable {X : Cx} {Wx : WX} {k : Nat} {a b c e o i f : Expr} {wa wb we wo wi wf : DEx} {pos p p2 apos cpos : Pos} {ws : DA} {es : List Expr}
/-- d.get(k, x) -/
def dGetD (wo wi wf : DEx) : DEx := fun Γ O R xe => wo Γ O (fun x O1 => isDictW x O1 = true ∧ wi Γ O1 (fun y O2 => wf Γ O2 (fun z O3 => dGet x y O3 (fun q => match q with
  | some w => R w O3
  | none => R z O3)) xe) xe) xe
/-- d.pop(k, x) -/
def dPopDD (wo wi wf : DEx) : DEx := fun Γ O R xe => wo Γ O (fun x O1 => isDictW x O1 = true ∧ wi Γ O1 (fun y O2 => wf Γ O2 (fun z O3 => match x with
  | .c j => (match O3[j]? with
    | some (.dic kvs) => (match keyW y with
      | some q => (match valW kvs q with
        | some w => R w (O3.set j (.dic (dropW kvs q)))
        | none => R z O3)
      | none => False)
    | _ => False)
  | _ => False) xe) xe) xe
/-! #### items, of a dict with tuples as keys, or of {} -/
def dItemsE (wo : DEx) : DI := fun Γ O S xe => wo Γ O (fun r O1 => match r with
  | .c j => (match O1[j]? with
    | some (.ldct od es kvs) => (match qsW kvs with
      | some xs => (xs.all fun p => p.1.all keyOk) = true ∧ S (xs.map fun p => W.q p.1 p.2) (fun O => O[j]? = some (.ldct od es kvs)) O1
      | none => False)
    | _ => False)
  | .d (.dict []) => S [] (fun _ => True) O1
  | _ => False) xe
end
end Dl
/-! ### {k: v, ..}; d.update(e); x or y, not x, if x: by truth -/
namespace Dl
open PySem PySem.Spec PyProof.Rows L2
variable [TabsC]
section
variable {X : Cx} {Wx : WX} {k : Nat} {a b c e o i f : Expr} {wa wb we wo wi wf : DEx} {pos p p2 apos cpos : Pos} {ws : DA} {es rest : List Expr}
/-! #### displays -/
abbrev DP := Gm → Oh → (List (Key × W) → Oh → Prop) → DX → Prop
def dpNil : DP := fun _ O Q _ => Q [] O
def dpCons (wk wv : DEx) (r : DP) : DP := fun Γ O Q xe => wk Γ O (fun x O1 => wv Γ O1 (fun y O2 => match keyW x with
  | some q => r Γ O2 (fun ps O3 => Q ((q, y) :: ps) O3) xe
  | none => False) xe) xe
/-- {k: v, ..} -/
def dDisp (w : DP) : DEx := fun Γ O R xe => w Γ (O ++ [.dic []]) (fun ps O2 => O2[O.length]? = some (.dic []) ∧ ps.length ≤ 15 ∧ R (.c O.length) (O2.set O.length (.dic (mergeW [] ps)))) xe
/-! #### d.update(e) -/
/-! #### by truth -/
def truW : W → Oh → Option Bool
  | .d .none, _ => some false
  | .d (.bool b), _ => some b
  | .d (.int i), _ => some (i != 0)
  | .d (.list l), _ => some (!l.isEmpty)
  | .d (.tuple l), _ => some (!l.isEmpty)
  | .c j, O => (match O[j]? with
    | some (.lst ws) => some (!ws.isEmpty)
    | some (.dic kvs) => some (!kvs.isEmpty)
    | _ => none)
  | _, _ => none
/-- a or b -/
def dOrT (wa wb : DEx) : DEx := fun Γ O R xe => wa Γ O (fun x O1 => match truW x O1 with
  | some true => R x O1
  | some false => wb Γ O1 R xe
  | none => False) xe
/-- if a: -/
def dTru (wa : DEx) : DT := fun Γ O R xe => wa Γ O (fun x O1 => match truW x O1 with
  | some t => R t O1
  | none => False) xe
end
end Dl
/-! ### defs with defaults, all cells of which stay -/
namespace Dl
open PySem PySem.Spec PyProof.Rows L2
variable [TabsC]
/-! ### s.upper() -/
def dUpper (wo : DEx) : DEx := fun Γ O R xe => wo Γ O (fun x O1 => match x with
  | .d (.str a) => a.length ≤ 1000000 ∧ PyData.strOk (Txt.upper a) = true ∧ R (.d (.str (Txt.upper a))) O1
  | _ => False) xe
/-! ### a list that never changes from now on (data stays as it is) -/
def dFrzL (we : DEx) : DEx := fun Γ O R xe => we Γ O (fun x O1 => match x with
  | .d x => R (.d x) O1
  | .c j => (match O1[j]? with
    | some (.lst ws) => (match datas ws with
      | some ds => R (.d (.list ds)) (O1.set j .gone)
      | none => False)
    | _ => False)
  | _ => False) xe
/-! ### tuple * int -/
end Dl
/-! ### things in which empty dicts may stand, at any depth: ==, in, not in, repr; isinstance with (tuple, list); xs.insert(i, y) -/
namespace Dl
open PySem PySem.Spec PyProof.Rows L2 PySem.SeqAt PySem.MeetsSeq PySem.AutoSeq1 PySem.Calls
variable [TabsC]
/-! #### isinstance(x, (A, B)) -/
def dIsi2 (T U : String) (we : DEx) : DEx := fun Γ O R xe => we Γ O (fun x O1 => match tyW x O1 with
  | some t => R (.d (.bool (subT t T || subT t U))) O1
  | none => False) xe
section
variable {X : Cx} {Wx : WX} {k : Nat} {a b c e : Expr} {wa wb wc we : DEx} {pos p2 : Pos}
theorem de_isi2 {T U : String} {x y : Str} {p pT pU pos pt : Pos} {kt : Nat} (hT : T ∈ ["int", "bool", "str", "list", "tuple", "dict"]) (hU : U ∈ ["int", "bool", "str", "list", "tuple", "dict"]) (hx : bootBuiltins x = some (.type T)) (hy : bootBuiltins y = some (.type U)) (hm : X.mg "isinstance" = none) (hm2 : X.mg x = none) (hm3 : X.mg y = none) (ha : DE X Wx e we) (hv : bootBuiltins "isinstance" = some (.builtin "isinstance")) (hg : Gl X "isinstance" := by rfl) (hg2 : Gl X x := by rfl) (hg3 : Gl X y := by rfl)
    (hn2 : x ≠ "__name__" := by decide) (hd2 : (x == ("__debug__" : Str)) = false := by decide) (hn3 : y ≠ "__name__" := by decide) (hd3 : (y == ("__debug__" : Str)) = false := by decide)
    (ht1 : starEach (.Name x pT :: [.Name y pU]) X.env = (false, eval (.Name x pT) X.env) :: starEach [.Name y pU] X.env := by rfl) (ht2 : starEach [.Name y pU] X.env = (false, eval (.Name y pU) X.env) :: starEach [] X.env := by rfl)
    (hs : starEach (e :: [.Tuple [.Name x pT, .Name y pU] kt pt]) X.env = (false, eval e X.env) :: starEach [.Tuple [.Name x pT, .Name y pU] kt pt] X.env := by rfl) (hs2 : starEach [.Tuple [.Name x pT, .Name y pU] kt pt] X.env = (false, eval (.Tuple [.Name x pT, .Name y pU] kt pt) X.env) :: starEach [] X.env := by rfl)
    (hpl : (backTo pos (starEach [.Tuple [.Name x pT, .Name y pU] kt pt] X.env)).any (·.1) = false := by rfl) :
    DE X Wx (.Call (.Name "isinstance" p) [e, .Tuple [.Name x pT, .Name y pU] kt pt] [] pos) (dIsi2 T U we) := by
  have h1 : PE X (.Name x pT) (tC (.ty T)) := pe_bltn hg2 hm2 hx rfl (hn := hn2) (hd := hd2)
  have h2 : PE X (.Name y pU) (tC (.ty U)) := pe_bltn hg3 hm3 hy rfl (hn := hn3) (hd := hd3)
  have hb : PE X (.Tuple [.Name x pT, .Name y pU] kt pt) (tTup _) := pe_tup (pa_cons h1 (pa_cons h2 pa_nil ht2) ht1)
  refine pe_imp (fun σ H Q ⟨G, α, Γ, O, R, xe, sl, rel, h, p, xp⟩ => ?_) (pe_callB call_isiT hg hm hv (pa_cons ha (pa_cons hb pa_nil hs2) hs) (he := hs) (hpl := hpl))
  refine ⟨G, α, Γ, O, _, xe, sl, rel, h, fun y O1 h1 v G1 α1 H1 e1 p1 rel1 r1 => ?_, xp⟩
  dsimp only at h1
  split at h1
  · next t et =>
    obtain ⟨ty, ht⟩ := tyW_ok rel1 r1 et
    refine ⟨by show 2 ≤ sizeLine; decide, fun tp htp => ?_⟩
    have gp := rel1.ex.free htp
    have ty' : TyX X.K (upd H1 tp (.tup [.ty T, .ty U])) v (.type t) := (tyW_ok (rel1.lay htp) (r1.mono (Ex.new gp) (Pre.refl _)) et).1
    refine ⟨v, tp, [.ty T, .ty U], .type t, [.type T, .type U], subT t T || subT t U, rfl, upd_same, .cons (.ty T) (.cons (.ty U) .nil), ty', ?_, p _ _ h1 _ _ _ _ (e1.trans (Ex.new gp)) p1 (rel1.lay htp) (.bl _)⟩
    refine kitAny_cons (kit_ty ht hT) (fun z => ?_) (fun z => by rw [z]; rfl)
    refine kitAny_cons (kit_ty ht hU) (fun z2 => ?_) (fun z2 => by rw [z2, Bool.or_true])
    rw [z, z2]; rfl
  · exact h1.elim
end
/-! #### what an item compares to a text -/
/-- no dict, or an empty one -/
def t0 : PyData → Bool
  | .dict kvs => kvs.isEmpty
  | _ => true
def t1 : PyData → Bool
  | .tuple ds => ds.all t0
  | d => t0 d
theorem tuple_eq_declines_dict (b : Addr) (xs : Array Value) (m : Nat) (d2 : Option Addr) (s2 : Array (Option Value)) (l : Addr) (es : Array DictEntry) (n : Nat) (dd : Option Addr) (sl : Array (Option Value)) :
    Meets (Builtin.«tuple.__eq__» ⟨[.ref b, .ref l], []⟩) (fun _ R s => s.heap.get? b = some { cls := .type "tuple", dict := d2, data := .seq xs m, slots := s2 } ∧ s.heap.get? l = some { cls := .type "dict", dict := dd, data := .dict es n, slots := sl } ∧ R (.ok (.ret .notImplemented)) s) :=
  .of_wp fun prog w A R s h => by obtain ⟨hp, g, d, tk, os⟩ := s; obtain ⟨hb, hl, h⟩ := h; have f1 := PySem.F.sub_dict_tuple; wp_walk using wpAny_loadPart' hb, wpAny_load hb, wpAny_loadPart' hl, wpAny_load hl; exact ⟨_, rfl, h⟩
theorem dict_eq_declines_tuple (l : Addr) (es : Array DictEntry) (n : Nat) (dd : Option Addr) (sl : Array (Option Value)) (b : Addr) (xs : Array Value) (m : Nat) (d2 : Option Addr) (s2 : Array (Option Value)) :
    Meets (Builtin.«dict.__eq__» ⟨[.ref l, .ref b], []⟩) (fun _ R s => s.heap.get? b = some { cls := .type "tuple", dict := d2, data := .seq xs m, slots := s2 } ∧ s.heap.get? l = some { cls := .type "dict", dict := dd, data := .dict es n, slots := sl } ∧ R (.ok (.ret .notImplemented)) s) :=
  .of_wp fun prog w A R s h => by obtain ⟨hp, g, d, tk, os⟩ := s; obtain ⟨hb, hl, h⟩ := h; have f1 := PySem.F.sub_tuple_dict; wp_walk using wpAny_loadPart' hb, wpAny_load hb, wpAny_loadPart' hl, wpAny_load hl; exact ⟨_, rfl, h⟩
section
variable {A : Around} {s : Shared}
theorem rcAt_dict_tuple {l b : Addr} {o : Obj} {es : Array DictEntry} {n : Nat} {items : Array Value} (hb : s.heap.IsTuple b items) (ho : s.heap.get? l = some o) (hc : o.cls = .type "dict") (hd : o.data = .dict es n) (hu : A.units < cLine) : RcAt A s (.ref l) (.ref b) false := fun prog w E Q h => by
  obtain ⟨cls, dd, data, sl⟩ := o
  simp only at hc hd
  subst hc hd
  obtain ⟨⟨cls2, d2, data2, s2⟩, ho2, hc2, m, hd2⟩ := id hb
  simp only at hc2 hd2
  subst hc2 hd2
  have hne : l ≠ b := fun z => by subst z; rw [ho] at ho2; simp at ho2
  exact rc_eq_decline_or (k := false) ⟨_, ho, rfl⟩ ⟨_, ho2, rfl⟩ (by decide) PySem.F.sub_tuple_dict PySem.F.slot_dict_eq_refl PySem.F.slot_tuple_eq
    (fun _ hq => call_meets PySem.F.slot_dict_eq_refl ⟨_, ho, rfl⟩ PySem.F.entry_dict_eq (PySem.F.args_dict_eq_2 _ _) (dict_eq_declines_tuple l es n dd sl b items m d2 s2) ⟨ho2, ho, hq⟩)
    (fun _ hq => call_meets PySem.F.slot_tuple_eq ⟨_, ho2, rfl⟩ PySem.F.entry_tuple_eq (PySem.F.args_tuple_eq_2 _ _) (tuple_eq_declines_dict b items m d2 s2 l es n dd sl) ⟨ho2, ho, hq⟩)
    (fun _ hq => PySem.wpAny_isSame_ref_other hne ho ho2 (by simp) hq) (.inr hu) h
end
end Dl
/-! ### ==, in, not in of things in which empty dicts may stand -/
namespace Dl
open PySem PySem.Spec PyProof.Rows L2 PySem.SeqAt PySem.MeetsSeq PySem.AutoSeq1 PySem.Calls
variable [TabsC]
section
variable {X : Cx} {pins : List (Addr × Obj)} {σ : L2.St} {H : Hp} {s : Shared} {A : Around}
/-- a thing against a text -/
theorem z_str (I : Inv X pins σ H s) (hu : A.units < cLine) {v : V} {d : PyData} {u : Value} (r : Rp X.K H v d) (z : t0 d = true) (rv : RelV v u) (b : Str) (t : Tok) : RcAt A s u (.str b t) (PyData.eqv d (.str b)) ∧ EqAt A s u (.str b t) (PyData.eqv d (.str b)) ∧ EqAt A s (.str b t) u (PyData.eqv d (.str b)) := by
  cases r with
  | non => cases rv; exact ⟨RcAt.none_str b t, EqAt.none_str b t, EqAt.str_none b t⟩
  | bl y => cases rv; exact ⟨RcAt.bool_str y b t, EqAt.bool_str y b t, EqAt.str_bool b t y⟩
  | int i => obtain ⟨t', rfl⟩ := rv; exact ⟨RcAt.int_str i t' b t, EqAt.int_str i t' b t, EqAt.str_int b t i t'⟩
  | str y ok =>
    obtain ⟨t', rfl⟩ := rv
    refine ⟨RcAt.str_str y t' b t, EqAt.str_str y t' b t, ?_⟩
    have := EqAt.str_str (A := A) (s := s) b t y t'
    have e : (b == y) = (y == b) := by rw [Bool.eq_iff_iff, beq_iff_eq, beq_iff_eq]; exact eq_comm
    rw [e] at this
    exact this
  | lst hs ha =>
    cases rv
    obtain ⟨its, rr, pl, hz⟩ := I.list (SqL.of (K := X.K) hs)
    exact ⟨RcAt.list_str b t pl.isList hu, EqAt.list_str b t pl.isList hu, EqAt.str_list b t pl.isList hu⟩
  | tup hs td ha =>
    cases rv
    obtain ⟨its, rr, pt, hz⟩ := I.tuple hs
    exact ⟨RcAt.tuple_str b t pt hu, EqAt.tuple_str b t pt hu, EqAt.str_tuple b t pt hu⟩
  | scr ns hs => cases z
  | dk hg hk =>
    cases hk with
    | nil =>
      cases rv
      obtain ⟨_, hg', hx, es, ep, vs, hdt, _⟩ := I.frzK hg
      exact ⟨rcAt_dict_str b t hg' hx.1 hdt hu, eqAt_dict_str b t hg' hx.1 hdt hu, eqAt_str_dict b t hg' hx.1 hdt hu⟩
    | cons _ _ _ _ => cases z
theorem zs_str (I : Inv X pins σ H s) (hu : A.units < cLine) : ∀ {vs : List V} {ds : List PyData} {us : List Value} {bs : List Str} {ws : List Value}, RpL X.K H vs ds → ds.all t0 = true → Vals vs us → Vals (bs.map V.str) ws →
    ∀ j (h1 : j < us.length) (h2 : j < ws.length), EqAt A s us[j] ws[j] (pairEq ds (bs.map PyData.str) j)
  | _, _, _, _, _, .nil, _, .nil, _, j, h1, _ => absurd h1 (Nat.not_lt_zero _)
  | _, _, _, [], _, .cons _ _, _, .cons _ _, .nil, j, _, h2 => absurd h2 (Nat.not_lt_zero _)
  | _, _, _, b :: bs, _, .cons r1 r2, z, .cons v1 v2, .cons w1 w2, 0, _, _ => by
    rw [List.all_cons, Bool.and_eq_true] at z
    obtain ⟨t, rfl⟩ := w1
    exact (z_str I hu r1 z.1 v1 b t).2.1
  | _, _, _, b :: bs, _, .cons r1 r2, z, .cons v1 v2, .cons w1 w2, j + 1, h1, h2 => by
    rw [List.all_cons, Bool.and_eq_true] at z
    exact zs_str I hu r2 z.2 v2 w2 j (Nat.lt_of_succ_lt_succ h1) (Nat.lt_of_succ_lt_succ h2)
/-- a thing against a tuple of texts -/
theorem z_tup (I : Inv X pins σ H s) (hu : A.units + 1 < cLine) {v : V} {d : PyData} {u : Value} (r : Rp X.K H v d) (z : t1 d = true) (rv : RelV v u) {a : Addr} {bs : List Str} (hb : SqT X.K H a (bs.map V.str)) : RcAt A s u (.ref a) (PyData.eqv d (.tuple (bs.map PyData.str))) := by
  have hu1 : A.units < cLine := by omega
  obtain ⟨ws, rw', pb, hzb⟩ := I.tuple hb
  cases r with
  | non => cases rv; exact RcAt.none_tuple pb hu1
  | bl y => cases rv; exact RcAt.bool_tuple y pb hu1
  | int i => obtain ⟨t', rfl⟩ := rv; exact RcAt.int_tuple i t' pb hu1
  | str y ok => obtain ⟨t', rfl⟩ := rv; exact RcAt.str_tuple y t' pb hu1
  | lst hs ha =>
    cases rv
    obtain ⟨its, rr, pl, hz⟩ := I.list (SqL.of (K := X.K) hs)
    exact RcAt.list_tuple pl.isList pb hu1
  | @tup l vs ds hs td ha =>
    cases rv
    obtain ⟨its, rr, pt, hz⟩ := I.tuple hs
    show RcAt A s (.ref l) (.ref a) (PyData.eqvAll ds (bs.map PyData.str))
    have n1 : its.toArray.size = ds.length := by rw [List.size_toArray, ← rr.length, ha.length]
    have n2 : ws.toArray.size = (bs.map PyData.str).length := by rw [List.size_toArray, ← rw'.length, List.length_map, List.length_map]
    rw [← eqvAll_eq ds (bs.map PyData.str), ← n1, ← n2]
    refine RcAt.tuples pt pb hu1 fun j j1 j2 => ?_
    have := zs_str (A := A.in1) I hu ha z rr rw' j (by simpa using j1) (by simpa using j2)
    simpa using this
  | scr ns hs => cases z
  | dk hg hk =>
    cases hk with
    | nil =>
      cases rv
      obtain ⟨_, hg', hx, es, ep, vs, hdt, _⟩ := I.frzK hg
      exact rcAt_dict_tuple pb hg' hx.1 hdt hu1
    | cons _ _ _ _ => cases z
end
/-! #### == -/
def rEqZ (K : Fg) : R2 := fun x y H Q => ∃ (d : PyData), Rp K H x d ∧ ((∃ b : Str, y = .str b ∧ t0 d = true ∧ Q (.bl (PyData.eqv d (.str b))) H) ∨ ∃ (a : Addr) (bs : List Str), y = .ref a ∧ SqT K H a (bs.map V.str) ∧ t1 d = true ∧ Q (.bl (PyData.eqv d (.tuple (bs.map PyData.str)))) H)
theorem op_eq_Z {X : Cx} (hu : X.A.units + 100 < cLine) : OpR X (compareOp .Eq) (rEqZ X.K) := by
  intro pins s σ H x y v u Q I rx ry h
  obtain ⟨d, r, h | h⟩ := h
  · obtain ⟨b, rfl, z, q⟩ := h
    obtain ⟨t, rfl⟩ := (show ∃ t, u = Value.str b t from ry)
    exact (z_str I (by omega) r z rx b t).1 _ _ _ _ ⟨.bl _, H, I, rfl, q⟩
  · obtain ⟨a, bs, rfl, hb, z, q⟩ := h
    cases (show u = Value.ref a from ry)
    exact z_tup I (by omega) r z rx hb _ _ _ _ ⟨.bl _, H, I, rfl, q⟩
def dEqZ : D2 := fun x y O R => match x, y with
  | .d d, .d (.str b) => t0 d = true ∧ R (.d (.bool (PyData.eqv d (.str b)))) O
  | .d d, .d (.tuple ds) => (match strsD ds with
    | some _ => t1 d = true ∧ R (.d (.bool (PyData.eqv d (.tuple ds)))) O
    | none => False)
  | x, y => dEq x y O R
theorem s_eqZ {K : Fg} {mg : Str → Option Value} : OpS K mg dEqZ (fun x y H Q => rEqZ K x y H Q ∨ rEqD K x y H Q) := by
  intro G α O H x y u v R Q rel r1 r2 h p
  unfold dEqZ at h
  split at h
  · next d b =>
    have r1 : Rp K G u d := r1
    have r2 : Rp K G v (.str b) := r2
    cases r2
    exact .inl ⟨d, r1.mono rel.ex, .inl ⟨b, rfl, h.1, p.here h.2 rel (show Rp K G _ (.bool _) from .bl _)⟩⟩
  · next d ds =>
    split at h
    · next ss es =>
      have r1 : Rp K G u d := r1
      have r2 : Rp K G v (.tuple ds) := r2
      cases r2 with
      | tup sq _ ra =>
        have ed : ds = ss.map PyData.str := strsD_eq es
        rw [ed] at ra
        obtain ⟨ev, _⟩ := rpL_strs_inv ra
        subst ev
        refine .inl ⟨d, r1.mono rel.ex, .inr ⟨_, ss, rfl, rel.ex.sqT sq, h.1, ?_⟩⟩
        rw [← ed]
        exact p.here h.2 rel (show Rp K G _ (.bool _) from .bl _)
    · exact h.elim
  · exact .inr (s_eq _ _ _ _ _ _ _ _ _ _ rel r1 r2 h p)
theorem op_eqZ {X : Cx} {Wx : WX} {k : Nat} (g : Good X Wx k) : OpR X (compareOp .Eq) (fun x y H Q => rEqZ X.K x y H Q ∨ rEqD X.K x y H Q) := or_op (op_eq_Z (hu100 g.rm)) (op_eqG g)
/-! #### in, not in -/
def rInZ (K : Fg) (neg : Bool) : R2 := fun x y H Q => ∃ (d : PyData) (a : Addr) (bs : List Str), Rp K H x d ∧ t0 d = true ∧ y = .ref a ∧ (SqT K H a (bs.map V.str) ∨ SqL K H a (bs.map V.str)) ∧ Q (.bl (neg ^^ (bs.any fun b => PyData.eqv d (.str b)))) H
def zE (d : PyData) : Value → Bool
  | .str b _ => PyData.eqv d (.str b)
  | _ => false
theorem zE_any (d : PyData) : ∀ {bs : List Str} {us : List Value}, Vals (bs.map V.str) us → us.any (zE d) = bs.any fun b => PyData.eqv d (.str b)
  | [], _, r => by cases r; rfl
  | b :: bs, _, r => by
    cases r with
    | cons r1 r2 =>
      obtain ⟨t, rfl⟩ := r1
      rw [List.any_cons, List.any_cons, zE_any d r2]
      rfl
theorem zE_at {X : Cx} {pins : List (Addr × Obj)} {σ : L2.St} {H : Hp} {s : Shared} (I : Inv X pins σ H s) {A : Around} (hu : A.units < cLine) {v : V} {d : PyData} {u : Value} (r : Rp X.K H v d) (z : t0 d = true) (rv : RelV v u) :
    ∀ {bs : List Str} {us : List Value}, Vals (bs.map V.str) us → ∀ y ∈ us, EqAt A s y u (zE d y)
  | [], _, w, y, hy => by cases w; cases hy
  | b :: bs, _, w, y, hy => by
    cases w with
    | cons w1 w2 =>
      obtain ⟨t, rfl⟩ := w1
      rcases List.mem_cons.mp hy with rfl | hy
      · exact (z_str I hu r z rv b t).2.2
      · exact zE_at I hu r z rv w2 y hy
theorem op_in_Z {X : Cx} (hu : X.A.units + 100 < cLine) : OpR X (compareOp .In) (rInZ X.K false) := by
  intro pins s σ H x y v u Q I rx ry h
  obtain ⟨d, a, bs, r, z, rfl, h, q⟩ := h
  cases (show u = Value.ref a from ry)
  rcases h with h | h
  · obtain ⟨ws, rw', pt, hz⟩ := I.tuple h
    refine PySem.SeqAt.in_tupleAt (zE d) pt (fun y hy => zE_at I (by show X.A.units + 1 < cLine; omega) r z rx rw' y (by simpa using hy)) ⟨.bl _, H, I, ?_, q⟩
    show Value.bool _ = Value.bool _
    rw [Bool.false_xor, ← zE_any d rw']
    simp
  · obtain ⟨ws, rw', pl, hz⟩ := I.list h
    refine PySem.SeqAt.in_listAt (zE d) pl.isList (fun y hy => zE_at I (by show X.A.units + 1 < cLine; omega) r z rx rw' y (by simpa using hy)) ⟨.bl _, H, I, ?_, q⟩
    show Value.bool _ = Value.bool _
    rw [Bool.false_xor, ← zE_any d rw']
    simp
theorem op_ni_Z {X : Cx} (hu : X.A.units + 100 < cLine) : OpR X (compareOp .NotIn) (rInZ X.K true) := by
  intro pins s σ H x y v u Q I rx ry h
  obtain ⟨d, a, bs, r, z, rfl, h, q⟩ := h
  cases (show u = Value.ref a from ry)
  rcases h with h | h
  · obtain ⟨ws, rw', pt, hz⟩ := I.tuple h
    refine PySem.SeqAt.notIn_tupleAt (zE d) pt (fun y hy => zE_at I (by show X.A.units + 1 < cLine; omega) r z rx rw' y (by simpa using hy)) ⟨.bl _, H, I, ?_, q⟩
    show Value.bool _ = Value.bool _
    rw [Bool.true_xor, ← zE_any d rw']
    simp
  · obtain ⟨ws, rw', pl, hz⟩ := I.list h
    refine PySem.SeqAt.notIn_listAt (zE d) pl.isList (fun y hy => zE_at I (by show X.A.units + 1 < cLine; omega) r z rx rw' y (by simpa using hy)) ⟨.bl _, H, I, ?_, q⟩
    show Value.bool _ = Value.bool _
    rw [Bool.true_xor, ← zE_any d rw']
    simp
def dInZ (neg : Bool) : D2 := fun x y O R => match x, y with
  | .d d, .d (.tuple ds) => (match strsD ds with
    | some ks => t0 d = true ∧ R (.d (.bool (neg ^^ (ks.any fun b => PyData.eqv d (.str b))))) O
    | none => False)
  | .d d, .d (.list ds) => (match strsD ds with
    | some ks => t0 d = true ∧ R (.d (.bool (neg ^^ (ks.any fun b => PyData.eqv d (.str b))))) O
    | none => False)
  | _, _ => False
theorem s_inZ {K : Fg} {mg : Str → Option Value} {neg : Bool} : OpS K mg (dInZ neg) (rInZ K neg) := by
  intro G α O H x y u v R Q rel r1 r2 h p
  unfold dInZ at h
  split at h
  · next d ds =>
    split at h
    · next ss es =>
      have r1 : Rp K G u d := r1
      have r2 : Rp K G v (.tuple ds) := r2
      cases r2 with
      | tup sq _ ra =>
        have ed : ds = ss.map PyData.str := strsD_eq es
        rw [ed] at ra
        obtain ⟨ev, _⟩ := rpL_strs_inv ra
        subst ev
        exact ⟨d, _, ss, r1.mono rel.ex, h.1, rfl, .inl (rel.ex.sqT sq), p.here h.2 rel (show Rp K G _ (.bool _) from .bl _)⟩
    · exact h.elim
  · next d ds =>
    split at h
    · next ss es =>
      have r1 : Rp K G u d := r1
      have r2 : Rp K G v (.list ds) := r2
      cases r2 with
      | lst sq ra =>
        have ed : ds = ss.map PyData.str := strsD_eq es
        rw [ed] at ra
        obtain ⟨ev, _⟩ := rpL_strs_inv ra
        subst ev
        exact ⟨d, _, ss, r1.mono rel.ex, h.1, rfl, .inr (SqL.of (rel.ex _ _ sq)), p.here h.2 rel (show Rp K G _ (.bool _) from .bl _)⟩
    · exact h.elim
  · exact h.elim
/-! #### xs.insert(i, y) -/
def rInsert : V → List V → Hp → VK → Prop := fun x vs H Q => ∃ (l : Addr) (xs : List V) (i : Int) (y : V), x = .ref l ∧ vs = [.int i, y] ∧ H l = some (.lst xs) ∧ xs.length < sizeLine ∧ 0 ≤ i ∧ i < 2 ^ 63 ∧
    Q .non (upd H l (.lst (xs.take i.toNat ++ [y] ++ xs.drop i.toNat)))
def dInsert : DM := fun x xs O R => match x, xs with
  | .c j, [.d (.int i), y] => (match O[j]? with
    | some (.lst ws) => ws.length < 1000000 ∧ 0 ≤ i ∧ i < 2 ^ 63 ∧ R (.d .none) (O.set j (.lst (ws.take i.toNat ++ [y] ++ ws.drop i.toNat)))
    | _ => False)
  | _, _ => False
theorem s_insert {K : Fg} {mg : Str → Option Value} : MtS K mg dInsert rInsert := by
  intro G α O H x xs v vs R Q rel r1 rl h p
  unfold dInsert at h
  split at h
  · next j i y =>
    split at h
    · next ws ej =>
      cases rl with
      | cons ri rl =>
        obtain ⟨u, rfl, ru⟩ := rv1 rl
        cases ri
        obtain ⟨a, ha, rfl⟩ := r1
        obtain ⟨g0, us, hH, rw'⟩ := rel.at_ j a _ ha ej
        exact ⟨a, us, i, u, rfl, rfl, hH, by rw [rw'.len]; exact szlt h.1, h.2.1, h.2.2.1, p.wr rel ha ej g0 hH (((rw'.take _).append (.cons ru .nil)).append (rw'.drop _)) (show Rv K G α .non (.d .none) from Rp.non) h.2.2.2⟩
    · exact h.elim
  · exact h.elim
end Dl
/-! ### repr of things in which empty dicts may stand, where no guards are about -/
namespace Dl
open PySem PySem.Spec PyProof.Rows L2 PySem.SeqAt PySem.MeetsSeq PySem.AutoSeq1 PySem.Calls
variable [TabsC]
mutual
/-- what a value is, no list or tuple asked where it lies -/
inductive Rz (h : Heap) : Value → PyData → Prop
  | non : Rz h .none .none
  | bl (b : Bool) : Rz h (.bool b) (.bool b)
  | int (i : Int) (t : Tok) : Rz h (.int i t) (.int i)
  | str (x : Str) (t : Tok) : Rz h (.str x t) (.str x)
  | lst {l : Addr} {ob : Obj} {us : Array Value} {m : Nat} {ds : List PyData} (g : h.get? l = some ob) (c : ob.cls = .type "list") (q : ob.data = .seq us m) (r : RzL h us.toList ds) : Rz h (.ref l) (.list ds)
  | tup {l : Addr} {ob : Obj} {us : Array Value} {m : Nat} {ds : List PyData} (g : h.get? l = some ob) (c : ob.cls = .type "tuple") (q : ob.data = .seq us m) (r : RzL h us.toList ds) : Rz h (.ref l) (.tuple ds)
  | dic {l : Addr} {ob : Obj} {m : Nat} (z : (l == sysModules) = false) (g : h.get? l = some ob) (c : ob.cls = .type "dict") (q : ob.data = .dict #[] m) : Rz h (.ref l) (.dict [])
inductive RzL (h : Heap) : List Value → List PyData → Prop
  | nil : RzL h [] []
  | cons {u : Value} {us : List Value} {d : PyData} {ds : List PyData} (r : Rz h u d) (rs : RzL h us ds) : RzL h (u :: us) (d :: ds)
end
section
variable {prog : Program} {w : World} {h : Heap}
mutual
theorem Rz.reads : ∀ {d : PyData} {u : Value}, Rz h u d → ∃ as, Reads h u d as
  | .none, _, r => by cases r; exact ⟨_, .none⟩
  | .bool b, _, r => by cases r; exact ⟨_, .bool b⟩
  | .int i, _, r => by cases r with | int _ t => exact ⟨_, .int i t⟩
  | .str x, _, r => by cases r with | str _ t => exact ⟨_, .str x t⟩
  | .list ds, _, r => by
    cases r with
    | lst g c q r => obtain ⟨as, z⟩ := RzL.reads r; exact ⟨_, .list g c q z⟩
  | .tuple ds, _, r => by
    cases r with
    | tup g c q r => obtain ⟨as, z⟩ := RzL.reads r; exact ⟨_, .tuple g c q z⟩
  | .dict _, _, r => by
    cases r with
    | dic z g c q => exact ⟨_, .dict g c q .nil .nil⟩
theorem RzL.reads : ∀ {ds : List PyData} {us : List Value}, RzL h us ds → ∃ as, ReadsAll h us ds as
  | [], _, r => by cases r; exact ⟨_, .nil⟩
  | d :: ds, _, r => by
    cases r with
    | cons r rs =>
      obtain ⟨as, z⟩ := r.reads
      obtain ⟨bs, y⟩ := rs.reads
      exact ⟨_, .cons z y⟩
end
theorem dic_reads {l : Addr} {ob : Obj} {m : Nat} (z : (l == sysModules) = false) (g : h.get? l = some ob) (c : ob.cls = .type "dict") (q : ob.data = .dict #[] m) : Reads h (.ref l) (.dict []) [l] ∧ sysModules ∉ [l] :=
  ⟨by simpa using Reads.dict (as := []) (bs := []) (kvs := []) g c q .nil .nil, fun hm => by rw [List.mem_singleton] at hm; rw [← hm] at z; cases z⟩
mutual
theorem Rz.rk : ∀ {d : PyData} {u : Value}, Rz h u d → d.showable = true → d.shown.length ≤ sizeLine → ∃ bs, ReadAtMost h d.depth bs ∧ ReprK prog w bs h d.depth u d.shown
  | .none, _, r, hs, hz => by cases r; exact ReprK.of_reads .none hs (fun z => by cases z) hz
  | .bool b, _, r, hs, hz => by cases r; exact ReprK.of_reads (.bool b) hs (fun z => by cases z) hz
  | .int i, _, r, hs, hz => by cases r with | int _ t => exact ReprK.of_reads (.int i t) hs (fun z => by cases z) hz
  | .str x, _, r, hs, hz => by cases r with | str _ t => exact ReprK.of_reads (.str x t) hs (fun z => by cases z) hz
  | .dict _, _, r, hs, hz => by
    cases r with
    | dic z g c q => exact ReprK.of_reads (dic_reads z g c q).1 hs (fun _ => (dic_reads z g c q).2) hz
  | .list ds, _, r, hs, hz => by
    obtain ⟨as, rd⟩ := r.reads
    cases r with
    | lst g c q r =>
      next l ob us m =>
      have hz' : (listText (PyData.shownAll ds)).length ≤ sizeLine := hz
      obtain ⟨bs, hb, hk⟩ := RzL.rk r (by simpa [PyData.showable] using hs) fun t ht => Nat.le_trans (listText_mem_le ht) hz'
      have ed : (PyData.list ds).depth = PyData.depthAll ds + 1 := by simp [PyData.depth]
      refine ⟨l :: bs, hb.cons rd (by omega), ?_⟩
      rw [ed]
      show ReprK prog w _ _ _ _ (listText (PyData.shownAll ds))
      have hna : l ∉ bs := not_mem_of_deeper rd (by omega) hb
      obtain ⟨us⟩ := us
      match us, ds, r, hk, q with
      | [], [], _, _, q => rw [show PyData.shownAll [] = [] from rfl, listText_nil]; exact .listEmpty g c q
      | [], _ :: _, r, _, _ => cases r
      | x :: us, ds, r, hk, q => exact .list g c q hna (by simpa using hk.length_eq) fun i y e => hk.item i y (by simpa using e)
  | .tuple ds, _, r, hs, hz => by
    obtain ⟨as, rd⟩ := r.reads
    cases r with
    | tup g c q r =>
      next l ob us m =>
      have hz' : (tupleText (PyData.shownAll ds)).length ≤ sizeLine := hz
      obtain ⟨bs, hb, hk⟩ := RzL.rk r (by simpa [PyData.showable] using hs) fun t ht => Nat.le_trans (tupleText_mem_le ht) hz'
      have ed : (PyData.tuple ds).depth = PyData.depthAll ds + 1 := by simp [PyData.depth]
      refine ⟨l :: bs, hb.cons rd (by omega), ?_⟩
      rw [ed]
      exact .tuple g c q (not_mem_of_deeper rd (by omega) hb) hk
theorem RzL.rk : ∀ {ds : List PyData} {us : List Value}, RzL h us ds → PyData.showableAll ds = true → (∀ t ∈ PyData.shownAll ds, t.length ≤ sizeLine) → ∃ bs, ReadAtMost h (PyData.depthAll ds) bs ∧ ReprAllK prog w bs h (PyData.depthAll ds) us (PyData.shownAll ds)
  | [], _, r, _, _ => by cases r; exact ⟨[], fun _ z => (nomatch z), .nil⟩
  | d :: ds, _, r, hs, hz => by
    cases r with
    | cons r rs =>
      have hs' : d.showable = true ∧ PyData.showableAll ds = true := by simpa [PyData.showableAll] using hs
      have ea : PyData.shownAll (d :: ds) = d.shown :: PyData.shownAll ds := rfl
      rw [ea] at hz
      obtain ⟨b1, hb1, k1⟩ := r.rk hs'.1 (hz _ List.mem_cons_self)
      obtain ⟨b2, hb2, k2⟩ := rs.rk hs'.2 fun t ht => hz t (List.mem_cons_of_mem _ ht)
      have ed : PyData.depthAll (d :: ds) = max d.depth (PyData.depthAll ds) := by simp [PyData.depthAll]
      rw [ed, ea]
      exact ⟨b1 ++ b2, (hb1.mono (Nat.le_max_left _ _)).append (hb2.mono (Nat.le_max_right _ _)), .cons ((k1.more fun b hb => List.mem_append_left _ hb).level_le (Nat.le_max_left _ _)) (k2.more_le (fun b hb => List.mem_append_right _ hb) (Nat.le_max_right _ _))⟩
end
theorem rz_repr {A : Around} {E : Value → Shared → Prop} {s : Shared} {Q : Value → Shared → Prop} {u : Value} {d : PyData} (r : Rz s.heap u d) (hs : d.showable = true) (hz : d.shown.length ≤ sizeLine) (hg : A.guards = some []) (hu : A.units + (d.depth + 1) < cLine)
    (hQ : ∀ h' t tk, (∀ b o, s.heap.get? b = some o → h'.get? b = some o) → Q (.str d.shown t) { s with heap := h', toks := tk }) : wpAny (model prog w) A (call (.builtin "repr") [u]) Q E s := by
  have hl : ∀ {d' : PyData} {t : Str}, d' = d → d'.shown = t → t.length ≤ sizeLine := fun e e' => by rw [← e', e]; exact hz
  cases r with
  | non => exact PySem.P.repr_of_none (hQ s.heap _ _ fun _ _ e => e)
  | bl b => exact PySem.P.repr_of_bool (hQ s.heap _ _ fun _ _ e => e)
  | int i t => exact PySem.P.repr_of_int (by simpa [PyData.showable] using hs) (hQ s.heap _ _ fun _ _ e => e)
  | str x t => exact PySem.P.repr_of_str (hQ s.heap _ _ fun _ _ e => e) (hsz := hz)
  | dic z g c q => exact PySem.repr_of_reads' (dic_reads z g c q).1 hs (fun _ => (dic_reads z g c q).2) hg hu (fun _ _ e => e) hQ hz
  | lst g c q r =>
    next l ob us m ds =>
    obtain ⟨as, rd⟩ := Rz.reads (.lst g c q r)
    have hz' : (listText (PyData.shownAll ds)).length ≤ sizeLine := hz
    obtain ⟨bs, hb, hk⟩ := RzL.rk (prog := prog) (w := w) r (by simpa [PyData.showable] using hs) fun t ht => Nat.le_trans (listText_mem_le ht) hz'
    have ed : (PyData.list ds).depth = PyData.depthAll ds + 1 := by simp [PyData.depth]
    have hna : l ∉ bs := not_mem_of_deeper rd (by omega) hb
    refine call_repr_slot (by omega) ⟨ob, g, c⟩ F.slot_list_repr.toG ?_
    obtain ⟨us⟩ := us
    match us, ds, r, hk, q, hQ with
    | [], [], _, _, q, hQ =>
      refine call_list_repr_empty ⟨ob, g, c⟩ g q ?_
      rw [← listText_nil]
      exact ⟨_, _, rfl, hQ s.heap _ _ fun _ _ e => e⟩
    | [], _ :: _, r, _, _, _ => cases r
    | x :: us, ds, r, hk, q, hQ => exact call_list_reprK g c q hna (by simpa using hk.length_eq) (fun i y e => hk.item i y (by simpa using e)) hg (fun b _ => Clear.nil b) (by show A.units + 1 + (PyData.depthAll ds + 1) < cLine; omega) (fun _ _ e => e) (fun h' u tk hk => ⟨_, _, rfl, hQ h' u tk hk⟩) hz'
  | tup g c q r =>
    next l ob us m ds =>
    obtain ⟨as, rd⟩ := Rz.reads (.tup g c q r)
    have hz' : (tupleText (PyData.shownAll ds)).length ≤ sizeLine := hz
    obtain ⟨bs, hb, hk⟩ := RzL.rk (prog := prog) (w := w) r (by simpa [PyData.showable] using hs) fun t ht => Nat.le_trans (tupleText_mem_le ht) hz'
    have ed : (PyData.tuple ds).depth = PyData.depthAll ds + 1 := by simp [PyData.depth]
    have hna : l ∉ bs := not_mem_of_deeper rd (by omega) hb
    refine call_repr_slot (by omega) ⟨ob, g, c⟩ F.slot_tuple_repr ?_
    exact call_tuple_reprK g c q hna hk hg (fun b _ => Clear.nil b) (by show A.units + 1 + (PyData.depthAll ds + 1) < cLine; omega) (fun _ _ e => e) (fun h' u tk hk => ⟨_, _, rfl, hQ h' u tk hk⟩) hz'
end
end Dl
/-! ### the reading of repr; how long and of what signs the text is -/
namespace Dl
open PySem PySem.Spec PyProof.Rows L2
variable [TabsC]
/-- no dict but empty ones, not deep -/
def zk : Nat → PyData → Bool
  | _, .none => true
  | _, .bool _ => true
  | _, .int _ => true
  | _, .str _ => true
  | n + 1, .list ds => ds.all (zk n)
  | n + 1, .tuple ds => ds.all (zk n)
  | _, .dict kvs => kvs.isEmpty
  | _, _ => false
section
variable {X : Cx} {pins : List (Addr × Obj)} {σ : L2.St} {H : Hp} {s : Shared}
mutual
theorem rz_of (I : Inv X pins σ H s) : ∀ (n : Nat) {d : PyData} {v : V} {u : Value}, Rp X.K H v d → zk n d = true → RelV v u → Rz s.heap u d
  | n, .none, _, _, r, _, rv => by cases r; cases rv; exact .non
  | n, .bool b, _, _, r, _, rv => by cases r; cases rv; exact .bl b
  | n, .int i, _, _, r, _, rv => by cases r; obtain ⟨t, rfl⟩ := rv; exact .int i t
  | n, .str x, _, _, r, _, rv => by cases r; obtain ⟨t, rfl⟩ := rv; exact .str x t
  | 0, .list ds, _, _, _, z, _ => by cases z
  | n + 1, .list ds, _, _, r, z, rv => by
    cases r with
    | lst hs ha =>
      cases rv
      obtain ⟨its, rr, ⟨o, m, ho, hc, _, hd⟩, _⟩ := I.list (SqL.of (K := X.K) hs)
      exact .lst ho hc hd (rzl_of I n ha z rr)
  | 0, .tuple ds, _, _, _, z, _ => by cases z
  | n + 1, .tuple ds, _, _, r, z, rv => by
    cases r with
    | tup hs td ha =>
      cases rv
      obtain ⟨its, rr, ⟨o, ho, hc, m, hd⟩, _⟩ := I.tuple hs
      exact .tup ho hc hd (rzl_of I n ha z rr)
  | n, .dict kvs, _, _, r, z, rv => by
    have z' : kvs.isEmpty = true := by cases n <;> exact z
    cases r with
    | scr ns hs => cases z'
    | dk hg hk =>
      cases hk with
      | nil =>
        cases rv
        obtain ⟨hsm, hg', hx, es, ep, vs, hdt, hes, _⟩ := I.frzK hg
        have e0 : es = #[] := by
          apply Array.eq_empty_of_size_eq_zero
          exact hes
        subst e0
        exact .dic hsm hg' hx.1 hdt
      | cons _ _ _ _ => cases z'
theorem rzl_of (I : Inv X pins σ H s) : ∀ (n : Nat) {ds : List PyData} {vs : List V} {us : List Value}, RpL X.K H vs ds → ds.all (zk n) = true → Vals vs us → RzL s.heap us ds
  | n, [], _, _, r, _, rv => by cases r; cases rv; exact .nil
  | n, d :: ds, _, _, r, z, rv => by
    rw [List.all_cons, Bool.and_eq_true] at z
    cases r with
    | cons r1 r2 =>
      cases rv with
      | cons v1 v2 => exact .cons (rz_of I n r1 z.1 v1) (rzl_of I n r2 z.2 v2)
end
end
mutual
theorem zk_depth : ∀ (n : Nat) (d : PyData), zk n d = true → d.depth ≤ n + 1
  | n, .none, _ => by simp [PyData.depth]
  | n, .bool _, _ => by simp [PyData.depth]
  | n, .int _, _ => by simp [PyData.depth]
  | n, .str _, _ => by simp [PyData.depth]
  | 0, .list _, h => by cases h
  | 0, .tuple _, h => by cases h
  | n, .dict kvs, h => by
    have z' : kvs.isEmpty = true := by cases n <;> exact h
    cases kvs with
    | nil => simp [PyData.depth, PyData.depthKv]
    | cons _ _ => cases z'
  | n + 1, .list ds, h => by
    have := zk_depths n ds h
    simp only [PyData.depth]
    omega
  | n + 1, .tuple ds, h => by
    have := zk_depths n ds h
    simp only [PyData.depth]
    omega
theorem zk_depths : ∀ (n : Nat) (ds : List PyData), ds.all (zk n) = true → PyData.depthAll ds ≤ n + 1
  | n, [], _ => by simp [PyData.depthAll]
  | n, d :: ds, h => by
    rw [List.all_cons, Bool.and_eq_true] at h
    have := zk_depth n d h.1
    have := zk_depths n ds h.2
    simp only [PyData.depthAll]
    omega
end
def rReprZ (K : Fg) : List V → Hp → VK → Prop := fun xs H Q => ∃ (v : V) (d : PyData) (n : Nat), xs = [v] ∧ Rp K H v d ∧ zk n d = true ∧ n ≤ 60 ∧ d.showable = true ∧ d.shown.length ≤ sizeLine ∧ Q (.str d.shown) H
theorem call_reprZG {X : Cx} (hg : X.A.guards = some []) (hu : X.A.units + 100 < cLine) : CallR X (.builtin "repr") (rReprZ X.K) := by
  intro pins s σ H xs us Q I r h
  obtain ⟨v, d, n, rfl, rp, z, hn, hs, hl, q⟩ := h
  obtain ⟨u, rfl, ru⟩ := vals1 r
  have := zk_depth n d z
  refine rz_repr (rz_of I n rp z ru) hs hl hg (by omega) fun h' t tk hk => ?_
  exact ⟨.str d.shown, H, I.kept (t' := tk) hk, ⟨t, rfl⟩, q⟩
def dReprZ : DC := fun xs O R => match xs with
  | [.d d] => zk 60 d = true ∧ d.showable = true ∧ d.shown.length ≤ sizeLine ∧ PyData.strOk d.shown = true ∧ R (.d (.str d.shown)) O
  | _ => False
theorem s_reprZ {K : Fg} {mg : Str → Option Value} : CallS K mg dReprZ (rReprZ K) := by
  intro G α O H xs vs R Q rel rl h p
  unfold dReprZ at h
  split at h
  · next d =>
    obtain ⟨z, hs, hl, ok, h⟩ := h
    obtain ⟨v, rfl, rv⟩ := rv1 rl
    exact ⟨v, d, 60, rfl, Rp.mono rel.ex rv, z, Nat.le_refl _, hs, hl, p.here h rel (.str _ ok)⟩
  · exact h.elim
/-! #### xs != [] -/
def rNeNil (K : Fg) : R2 := fun x y H Q => ∃ (a b : Addr) (xs : List V), x = .ref a ∧ y = .ref b ∧ H a = some (.lst xs) ∧ H b = some (.lst []) ∧ Q (.bl (!xs.isEmpty)) H
theorem op_ne_nil {X : Cx} (hu : X.A.units + 100 < cLine) : OpR X (compareOp .NotEq) (rNeNil X.K) := by
  intro pins s σ H x y v u Q I rx ry h
  obtain ⟨a, b, xs, rfl, rfl, ha, hb, q⟩ := h
  cases (show v = Value.ref a from rx)
  cases (show u = Value.ref b from ry)
  obtain ⟨its, r1, p1, _⟩ := I.list (SqL.of (K := X.K) ha)
  obtain ⟨its2, r2, p2, _⟩ := I.list (SqL.of (K := X.K) hb)
  cases r2
  cases xs with
  | nil =>
    cases r1
    exact PySem.SeqAt.RcNeAt.lists (e := fun _ => false) p1.isList p2.isList rfl (by omega) (fun j j1 _ => absurd j1 (by simp)) _ _ _ _ ⟨.bl _, H, I, rfl, q⟩
  | cons x xs =>
    cases r1 with
    | cons _ _ => exact PySem.SeqAt.RcNeAt.lists_lengths p1.isList p2.isList (by simp) (by omega) _ _ _ _ ⟨.bl _, H, I, rfl, q⟩
def dNeNil : D2 := fun x y O R => match x, y with
  | .c j, .d (.list []) => (match O[j]? with
    | some (.lst ws) => R (.d (.bool (!ws.isEmpty))) O
    | _ => False)
  | _, _ => False
theorem s_neNil {K : Fg} {mg : Str → Option Value} : OpS K mg dNeNil (rNeNil K) := by
  intro G α O H x y u v R Q rel r1 r2 h p
  unfold dNeNil at h
  split at h
  · next j =>
    split at h
    · next ws ej =>
      obtain ⟨a, ha, rfl⟩ := r1
      obtain ⟨g0, us, hH, rw'⟩ := rel.at_ j a _ ha ej
      have r2 : Rp K G v (.list []) := r2
      cases r2 with
      | lst hs hl =>
        cases hl
        have e : ws.isEmpty = us.isEmpty := by
          have := rw'.len
          cases ws <;> cases us <;> simp at this ⊢
        refine ⟨a, _, us, rfl, rfl, hH, rel.ex _ _ hs, ?_⟩
        rw [← e]
        exact p.here h rel (show Rp K G _ (.bool _) from .bl _)
    · exact h.elim
  · exact h.elim
end Dl
/-! ### readings are gone through, step by step: `repeat refine Go.h ?_` -/
namespace Dl
open PySem PySem.Spec PyProof.Rows L2
/-- where a law makes no lambda, or where it does not matter -/
instance (priority := 10) noTabs : TabsC := ⟨[]⟩
/-- P comes of Q -/
class Go (P : Prop) (Q : outParam Prop) : Prop where
  h : Q → P
/-! #### lists that are written out -/
class Get {α : Type} (l : List α) (i : Nat) (x : outParam α) : Prop where
  e : l[i]? = some x
instance {α : Type} {x : α} {l : List α} : Get (x :: l) 0 x := ⟨rfl⟩
instance {α : Type} {x y : α} {l : List α} {n : Nat} [h : Get l n x] : Get (y :: l) (n + 1) x := ⟨by rw [List.getElem?_cons_succ]; exact h.e⟩
class Put {α : Type} (l : List α) (i : Nat) (x : α) (l' : outParam (List α)) : Prop where
  e : l.set i x = l'
instance {α : Type} {x y : α} {l : List α} : Put (y :: l) 0 x (x :: l) := ⟨rfl⟩
instance {α : Type} {x y : α} {l l' : List α} {n : Nat} [h : Put l n x l'] : Put (y :: l) (n + 1) x (y :: l') := ⟨by rw [List.set_cons_succ, h.e]⟩
class Snoc {α : Type} (l : List α) (x : α) (l' : outParam (List α)) : Prop where
  e : l ++ [x] = l'
instance {α : Type} {x : α} : Snoc [] x [x] := ⟨rfl⟩
instance {α : Type} {x y : α} {l l' : List α} [h : Snoc l x l'] : Snoc (y :: l) x (y :: l') := ⟨by rw [List.cons_append, h.e]⟩
class Cnt {α : Type} (l : List α) (n : outParam Nat) : Prop where
  e : l.length = n
class Sz {α : Type} (l : List α) : Prop where
  e : l.length ≤ 1000000
instance {α : Type} : Cnt ([] : List α) 0 := ⟨rfl⟩
instance {α : Type} : Sz ([] : List α) := ⟨Nat.le_of_ble_eq_true rfl⟩
instance {α : Type} {a : α} : Cnt ([a] : List α) 1 := ⟨rfl⟩
instance {α : Type} {a : α} : Sz ([a] : List α) := ⟨Nat.le_of_ble_eq_true rfl⟩
instance {α : Type} {a b : α} : Cnt ([a, b] : List α) 2 := ⟨rfl⟩
instance {α : Type} {a b : α} : Sz ([a, b] : List α) := ⟨Nat.le_of_ble_eq_true rfl⟩
instance {α : Type} {a b c : α} : Cnt ([a, b, c] : List α) 3 := ⟨rfl⟩
instance {α : Type} {a b c : α} : Sz ([a, b, c] : List α) := ⟨Nat.le_of_ble_eq_true rfl⟩
instance {α : Type} {a b c d : α} : Cnt ([a, b, c, d] : List α) 4 := ⟨rfl⟩
instance {α : Type} {a b c d : α} : Sz ([a, b, c, d] : List α) := ⟨Nat.le_of_ble_eq_true rfl⟩
instance {α : Type} {a b c d e : α} : Cnt ([a, b, c, d, e] : List α) 5 := ⟨rfl⟩
instance {α : Type} {a b c d e : α} : Sz ([a, b, c, d, e] : List α) := ⟨Nat.le_of_ble_eq_true rfl⟩
instance {α : Type} {a b c d e f : α} : Cnt ([a, b, c, d, e, f] : List α) 6 := ⟨rfl⟩
instance {α : Type} {a b c d e f : α} : Sz ([a, b, c, d, e, f] : List α) := ⟨Nat.le_of_ble_eq_true rfl⟩
instance {α : Type} {a b c d e f g : α} : Cnt ([a, b, c, d, e, f, g] : List α) 7 := ⟨rfl⟩
instance {α : Type} {a b c d e f g : α} : Sz ([a, b, c, d, e, f, g] : List α) := ⟨Nat.le_of_ble_eq_true rfl⟩
instance {α : Type} {a b c d e f g h : α} : Cnt ([a, b, c, d, e, f, g, h] : List α) 8 := ⟨rfl⟩
instance {α : Type} {a b c d e f g h : α} : Sz ([a, b, c, d, e, f, g, h] : List α) := ⟨Nat.le_of_ble_eq_true rfl⟩
/-- what never changes, as data -/
class Dats (ws : List W) (ds : outParam (List PyData)) : Prop where
  e : datas ws = some ds
instance : Dats [] [] := ⟨rfl⟩
theorem datas_cons {x : PyData} {ws : List W} {ds : List PyData} (h : datas ws = some ds) : datas (.d x :: ws) = some (x :: ds) := by unfold datas; rw [h]
instance {x : PyData} {ws : List W} {ds : List PyData} [h : Dats ws ds] : Dats (.d x :: ws) (x :: ds) := ⟨datas_cons h.e⟩
instance {ds : List PyData} : Dats (ds.map W.d) ds := ⟨datas_map ds⟩
class MapD (ds : List PyData) (ws : outParam (List W)) : Prop where
  e : ds.map W.d = ws
instance : MapD [] [] := ⟨rfl⟩
instance {x : PyData} {ws : List W} {ds : List PyData} [h : MapD ds ws] : MapD (x :: ds) (.d x :: ws) := ⟨by rw [List.map_cons, h.e]⟩
instance (priority := low) {ds : List PyData} : MapD ds (ds.map W.d) := ⟨rfl⟩
/-! #### the store: what was there, and cells of one's own behind -/
class Len (O : Oh) (n : outParam Nat) : Prop where
  e : O.length = n
class CloC (n : Nat) (O : Oh) : Prop where
  e : Clo n O = true
class Cl (O : Oh) (j : Nat) (c : outParam Cell) : Prop where
  e : O[j]? = some c
instance {O L : Oh} {n k : Nat} {c : Cell} [l : Len O n] [g : Get L k c] : Cl (O ++ L) (n + k) c := ⟨by rw [← l.e, List.getElem?_append_right (Nat.le_add_right _ _), Nat.add_sub_cancel_left]; exact g.e⟩
instance (priority := low) {O L : Oh} {j : Nat} {c : Cell} [g : Cl O j c] : Cl (O ++ L) j c := ⟨by rw [List.getElem?_append_left (List.getElem?_eq_some_iff.mp g.e).1]; exact g.e⟩
/-- a cell put -/
class St (O : Oh) (j : Nat) (c : Cell) (O' : outParam Oh) : Prop where
  e : O.set j c = O'
theorem set_app {O L : Oh} {k : Nat} {c : Cell} : (O ++ L).set (O.length + k) c = O ++ L.set k c := by
  rw [List.set_append_right _ _ (Nat.le_add_right _ _), Nat.add_sub_cancel_left]
instance {O L L' : Oh} {n k : Nat} {c : Cell} [l : Len O n] [g : Put L k c L'] : St (O ++ L) (n + k) c (O ++ L') := ⟨by rw [← l.e, set_app, g.e]⟩
/-- a new cell -/
class Nw (O : Oh) (c : Cell) (j : outParam Nat) (O' : outParam Oh) : Prop where
  e : O.length = j ∧ O ++ [c] = O'
instance {O L L' : Oh} {n k : Nat} {c : Cell} [l : Len O n] [g : Cnt L k] [s : Snoc L c L'] : Nw (O ++ L) c (n + k) (O ++ L') := ⟨by rw [List.length_append, l.e, g.e, List.append_assoc, s.e]; exact ⟨rfl, rfl⟩⟩
/-! #### defs -/
class SG (N : Nat) (ws : List W) (Γ : outParam Gm) : Prop where
  e : startG N ws = Γ
instance : SG 0 [] [] := ⟨rfl⟩
instance {N : Nat} {Γ : Gm} [h : SG N [] Γ] : SG (N + 1) [] (none :: Γ) := ⟨by rw [← h.e]; rfl⟩
instance {N : Nat} {w : W} {ws : List W} {Γ : Gm} [h : SG N ws Γ] : SG (N + 1) (w :: ws) (some w :: Γ) := ⟨by
  rw [← h.e]; unfold startG; rw [List.map_cons, List.length_cons, Nat.add_sub_add_right]; rfl⟩
theorem def_start {N m : Nat} {b : DSt} {ws : List W} {O : Oh} {R : DK} {xe : Exn → Oh → Prop} {Γ : Gm} (hl : ws.length = m) [hg : SG N ws Γ]
    (h : ∀ n, [Len O n] → [CloC n O] → b ⟨fun _ O' => Fin n O' (R (.d .none)), dAns n R, fun _ _ => False, fun _ _ => False⟩ (fun ex _ O' => Fin n O' (xe ex)) Γ (O ++ [])) : dDef N m b ws O R xe := by
  refine ⟨hl, fun c => ?_⟩
  haveI : Len O O.length := ⟨rfl⟩
  haveI : CloC O.length O := ⟨c⟩
  have := h O.length
  rw [List.append_nil] at this
  rw [hg.e]
  exact this
theorem def_startC {N m : Nat} {b : DSt} {ws : List W} {O : Oh} {R : DK} {xe : Exn → Oh → Prop} {Γ : Gm} (hl : ws.length = m) [hg : SG N ws Γ]
    (h : ∀ n, [Len O n] → [CloC n O] → b ⟨fun _ O' => Fin n O' (R (.d .none)), dAnsC n R, fun _ _ => False, fun _ _ => False⟩ (fun ex _ O' => Fin n O' (xe ex)) Γ (O ++ [])) : dDefC N m b ws O R xe := by
  refine ⟨hl, fun c => ?_⟩
  haveI : Len O O.length := ⟨rfl⟩
  haveI : CloC O.length O := ⟨c⟩
  have := h O.length
  rw [List.append_nil] at this
  rw [hg.e]
  exact this
theorem fin_go {O L : Oh} {n : Nat} {k : Oh → Prop} [l : Len O n] [c : CloC n O] (h : k O) : Fin n (O ++ L) k := by
  refine .inr ?_
  rw [← l.e, List.take_left, l.e]
  exact ⟨c.e, h⟩
instance {O L : Oh} {n : Nat} {k : Oh → Prop} [l : Len O n] [c : CloC n O] : Go (Fin n (O ++ L) k) (k O) := ⟨fin_go⟩
instance {O L : Oh} {n : Nat} {R : DK} {x : PyData} [l : Len O n] [c : CloC n O] : Go (dAns n R (.d x) (O ++ L)) (R (.d x) O) := ⟨fin_go (k := R (.d x))⟩
instance {O L : Oh} {n : Nat} {R : DK} {x : PyData} [l : Len O n] [c : CloC n O] : Go (dAnsC n R (.d x) (O ++ L)) (R (.d x) O) := ⟨fin_go (k := R (.d x))⟩
theorem ans_own {O L : Oh} {n k : Nat} {R : DK} {ws : List W} {ds : List PyData} (l : Len O n) (c : CloC n O) (g : Cl (O ++ L) (n + k) (.lst ws)) (d : Dats ws ds) (h : R (.d (.list ds)) O) : dAns n R (.c (n + k)) (O ++ L) := by
  show (if n + k < n then _ else _)
  rw [if_neg (by omega), g.e]
  dsimp only
  rw [d.e]
  exact fin_go (k := R (.d (.list ds))) h
instance {O L : Oh} {n k : Nat} {R : DK} {ws : List W} {ds : List PyData} [l : Len O n] [c : CloC n O] [g : Cl (O ++ L) (n + k) (.lst ws)] [d : Dats ws ds] : Go (dAns n R (.c (n + k)) (O ++ L)) (R (.d (.list ds)) O) := ⟨ans_own l c g d⟩
class CLt (n : Nat) (c : Cell) : Prop where
  e : c.lt n = true
theorem datas_all {n : Nat} : ∀ {ws : List W} {ds : List PyData}, datas ws = some ds → ws.all (W.lt n) = true
  | [], _, _ => rfl
  | .d x :: r, ds, h => by
    unfold datas at h
    split at h
    · next xs e => rw [List.all_cons, datas_all e]; rfl
    · cases h
  | .c _ :: _, _, h | .k _ :: _, _, h | .p _ :: _, _, h | .q _ _ :: _, _, h | .o _ _ _ :: _, _, h | .t _ :: _, _, h => by cases h
instance {n : Nat} {ws : List W} {ds : List PyData} [d : Dats ws ds] : CLt n (.lst ws) := ⟨datas_all d.e⟩
theorem ansC_own {O L : Oh} {n k : Nat} {R : DK} {c : Cell} (l : Len O n) (cl : CloC n O) (g : Get L k c) (hc : CLt n c) (h : R (.c n) (O ++ [c])) : dAnsC n R (.c (n + k)) (O ++ L) := by
  have e : (O ++ L).take n = O := by rw [← l.e, List.take_left]
  refine ⟨Nat.le_add_right _ _, by rw [e]; exact cl.e, c, ?_, hc.e, by rw [e]; exact h⟩
  rw [← l.e, List.getElem?_append_right (Nat.le_add_right _ _), Nat.add_sub_cancel_left]
  exact g.e
instance {O L : Oh} {n k : Nat} {R : DK} {c : Cell} [l : Len O n] [cl : CloC n O] [g : Get L k c] [hc : CLt n c] : Go (dAnsC n R (.c (n + k)) (O ++ L)) (R (.c n) (O ++ [c])) := ⟨ansC_own l cl g hc⟩
/-! #### statements -/
instance {f b c : Gm → Oh → Prop} {r : DK} {Γ : Gm} {O : Oh} {xe : DX} : Go (dNext ⟨f, r, b, c⟩ xe Γ O) (f Γ O) := ⟨fun h => h⟩
instance {f b c : Gm → Oh → Prop} {r : DK} {Γ : Gm} {O : Oh} {xe : DX} {t u : DSt} : Go (dSeq t u ⟨f, r, b, c⟩ xe Γ O) (t ⟨u ⟨f, r, b, c⟩ xe, r, b, c⟩ xe Γ O) := ⟨fun h => h⟩
instance {f b c : Gm → Oh → Prop} {r : DK} {Γ : Gm} {O : Oh} {xe : DX} : Go (dBreak ⟨f, r, b, c⟩ xe Γ O) (b Γ O) := ⟨fun h => h⟩
instance {f b c : Gm → Oh → Prop} {r : DK} {Γ : Gm} {O : Oh} {xe : DX} : Go (dCont ⟨f, r, b, c⟩ xe Γ O) (c Γ O) := ⟨fun h => h⟩
def kDrop (f : Gm → Oh → Prop) (Γ : Gm) : DK := fun _ O => f Γ O
instance {f b c : Gm → Oh → Prop} {r : DK} {Γ : Gm} {O : Oh} {xe : DX} {w : DEx} : Go (dDrop w ⟨f, r, b, c⟩ xe Γ O) (w Γ O (kDrop f Γ) xe) := ⟨fun h => h⟩
instance {f : Gm → Oh → Prop} {Γ : Gm} {x : W} {O : Oh} : Go (kDrop f Γ x O) (f Γ O) := ⟨fun h => h⟩
instance {f b c : Gm → Oh → Prop} {r : DK} {Γ : Gm} {O : Oh} {xe : DX} {w : DEx} : Go (dRet w ⟨f, r, b, c⟩ xe Γ O) (w Γ O r xe) := ⟨fun h => h⟩
instance {f b c : Gm → Oh → Prop} {r : DK} {Γ : Gm} {O : Oh} {xe : DX} : Go (dRetN ⟨f, r, b, c⟩ xe Γ O) (r (.d .none) O) := ⟨fun h => h⟩
def kIf (t u : DSt) (D : DEnds) (xe : DX) (Γ : Gm) : Bool → Oh → Prop := fun b O => if b = true then t D xe Γ O else u D xe Γ O
instance {Γ : Gm} {O : Oh} {xe : DX} {D : DEnds} {c : DT} {t u : DSt} : Go (dIf c t u D xe Γ O) (c Γ O (kIf t u D xe Γ) xe) := ⟨fun h => h⟩
instance {Γ : Gm} {O : Oh} {xe : DX} {D : DEnds} {t u : DSt} : Go (kIf t u D xe Γ true O) (t D xe Γ O) := ⟨fun h => by unfold kIf; rw [if_pos rfl]; exact h⟩
instance {Γ : Gm} {O : Oh} {xe : DX} {D : DEnds} {t u : DSt} : Go (kIf t u D xe Γ false O) (u D xe Γ O) := ⟨fun h => by unfold kIf; rw [if_neg Bool.false_ne_true]; exact h⟩
def kAsg (t : Tg) (f : Gm → Oh → Prop) (Γ : Gm) : DK := fun x O => t.put x Γ fun Γ' => f Γ' O
instance {f b c : Gm → Oh → Prop} {r : DK} {Γ : Gm} {O : Oh} {xe : DX} {w : DEx} {t : Tg} : Go (dAsg w t ⟨f, r, b, c⟩ xe Γ O) (w Γ O (kAsg t f Γ) xe) := ⟨fun h => h⟩
instance {f : Gm → Oh → Prop} {Γ : Gm} {x : W} {O : Oh} {t : Tg} : Go (kAsg t f Γ x O) (t.put x Γ fun Γ' => f Γ' O) := ⟨fun h => h⟩
theorem put_nm {Γ Γ' : Gm} {i : Nat} {x : W} {R : Gm → Prop} [g : Put Γ i (some x) Γ'] (h : R Γ') : (Tg.nm i).put x Γ R := by unfold Tg.put; rw [g.e]; exact h
instance {Γ Γ' : Gm} {i : Nat} {x : W} {R : Gm → Prop} [g : Put Γ i (some x) Γ'] : Go ((Tg.nm i).put x Γ R) (R Γ') := ⟨put_nm⟩
theorem put_tup {Γ : Gm} {ts : List Tg} {ds : List PyData} {ws : List W} {R : Gm → Prop} [m : MapD ds ws] (h : Tg.puts ts ws Γ R) : (Tg.tup ts).put (.d (.tuple ds)) Γ R := by unfold Tg.put; dsimp only; rw [m.e]; exact h
instance {Γ : Gm} {ts : List Tg} {ds : List PyData} {ws : List W} {R : Gm → Prop} [m : MapD ds ws] : Go ((Tg.tup ts).put (.d (.tuple ds)) Γ R) (Tg.puts ts ws Γ R) := ⟨put_tup⟩
theorem put_p {Γ : Gm} {ts : List Tg} {ds : List PyData} {ws : List W} {R : Gm → Prop} [m : MapD ds ws] (h : Tg.puts ts ws Γ R) : (Tg.tup ts).put (.p ds) Γ R := by unfold Tg.put; dsimp only; rw [m.e]; exact h
instance {Γ : Gm} {ts : List Tg} {ds : List PyData} {ws : List W} {R : Gm → Prop} [m : MapD ds ws] : Go ((Tg.tup ts).put (.p ds) Γ R) (Tg.puts ts ws Γ R) := ⟨put_p⟩
instance {Γ : Gm} {R : Gm → Prop} : Go (Tg.puts [] [] Γ R) (R Γ) := ⟨fun h => by unfold Tg.puts; exact h⟩
instance {Γ : Gm} {t : Tg} {ts : List Tg} {w : W} {ws : List W} {R : Gm → Prop} : Go (Tg.puts (t :: ts) (w :: ws) Γ R) (t.put w Γ fun Γ1 => Tg.puts ts ws Γ1 R) := ⟨fun h => by unfold Tg.puts; exact h⟩
def kPar (i j : Nat) (f : Gm → Oh → Prop) (Γ : Gm) : List W → Oh → Prop := fun vs O => match vs with
  | [v, w] => f ((Γ.set i (some v)).set j (some w)) O
  | _ => False
instance {f b c : Gm → Oh → Prop} {r : DK} {Γ : Gm} {O : Oh} {xe : DX} {i j : Nat} {ws : DA} : Go (dPar i j ws ⟨f, r, b, c⟩ xe Γ O) (ws Γ O (kPar i j f Γ) xe) := ⟨fun h => h⟩
instance {f : Gm → Oh → Prop} {Γ Γ1 Γ2 : Gm} {i j : Nat} {v w : W} {O : Oh} [g1 : Put Γ i (some v) Γ1] [g2 : Put Γ1 j (some w) Γ2] : Go (kPar i j f Γ [v, w] O) (f Γ2 O) := ⟨fun h => by unfold kPar; dsimp only; rw [g1.e, g2.e]; exact h⟩
/-! #### expressions -/
theorem go_var {Γ : Gm} {O : Oh} {R : DK} {xe : DX} {i : Nat} {w : W} [g : Get Γ i (some w)] (h : R w O) : dVar i Γ O R xe := by unfold dVar; rw [g.e]; exact h
instance {Γ : Gm} {O : Oh} {R : DK} {xe : DX} {i : Nat} {w : W} [g : Get Γ i (some w)] : Go (dVar i Γ O R xe) (R w O) := ⟨go_var⟩
instance {R : DK} {Γ : Gm} {O : Oh} {xe : DX} {x : PyData} : Go (dC x Γ O R xe) (R (.d x) O) := ⟨fun h => h⟩
def kOp2 (f : D2) (x : W) (R : DK) : DK := fun y O => f x y O R
def kOp1 (f : D2) (wb : DEx) (Γ : Gm) (R : DK) (xe : DX) : DK := fun x O => wb Γ O (kOp2 f x R) xe
instance {R : DK} {Γ : Gm} {O : Oh} {xe : DX} {f : D2} {wa wb : DEx} : Go (dOp f wa wb Γ O R xe) (wa Γ O (kOp1 f wb Γ R xe) xe) := ⟨fun h => h⟩
instance {R : DK} {Γ : Gm} {O : Oh} {xe : DX} {f : D2} {wb : DEx} {x : W} : Go (kOp1 f wb Γ R xe x O) (wb Γ O (kOp2 f x R) xe) := ⟨fun h => h⟩
instance {R : DK} {O : Oh} {f : D2} {x y : W} : Go (kOp2 f x R y O) (f x y O R) := ⟨fun h => h⟩
def kB (R : Bool → Oh → Prop) : DK := fun r O => match r with
  | .d (.bool b) => R b O
  | _ => False
instance {R : Bool → Oh → Prop} {Γ : Gm} {O : Oh} {xe : DX} {w : DEx} : Go (dB w Γ O R xe) (w Γ O (kB R) xe) := ⟨fun h => h⟩
instance {R : Bool → Oh → Prop} {O : Oh} {b : Bool} : Go (kB R (.d (.bool b)) O) (R b O) := ⟨fun h => h⟩
instance {R : Bool → Oh → Prop} {Γ : Gm} {O : Oh} {xe : DX} : Go (dYes Γ O R xe) (R true O) := ⟨fun h => h⟩
def kAnd (u : DT) (Γ : Gm) (R : Bool → Oh → Prop) (xe : DX) : Bool → Oh → Prop := fun b O => if b = true then u Γ O R xe else R false O
instance {R : Bool → Oh → Prop} {Γ : Gm} {O : Oh} {xe : DX} {t u : DT} : Go (dAnd t u Γ O R xe) (t Γ O (kAnd u Γ R xe) xe) := ⟨fun h => h⟩
instance {R : Bool → Oh → Prop} {Γ : Gm} {O : Oh} {xe : DX} {u : DT} : Go (kAnd u Γ R xe true O) (u Γ O R xe) := ⟨fun h => by unfold kAnd; rw [if_pos rfl]; exact h⟩
instance {R : Bool → Oh → Prop} {Γ : Gm} {O : Oh} {xe : DX} {u : DT} : Go (kAnd u Γ R xe false O) (R false O) := ⟨fun h => by unfold kAnd; rw [if_neg Bool.false_ne_true]; exact h⟩
def kOr (u : DT) (Γ : Gm) (R : Bool → Oh → Prop) (xe : DX) : Bool → Oh → Prop := fun b O => if b = true then R true O else u Γ O R xe
instance {R : Bool → Oh → Prop} {Γ : Gm} {O : Oh} {xe : DX} {t u : DT} : Go (dOr t u Γ O R xe) (t Γ O (kOr u Γ R xe) xe) := ⟨fun h => h⟩
instance {R : Bool → Oh → Prop} {Γ : Gm} {O : Oh} {xe : DX} {u : DT} : Go (kOr u Γ R xe true O) (R true O) := ⟨fun h => by unfold kOr; rw [if_pos rfl]; exact h⟩
instance {R : Bool → Oh → Prop} {Γ : Gm} {O : Oh} {xe : DX} {u : DT} : Go (kOr u Γ R xe false O) (u Γ O R xe) := ⟨fun h => by unfold kOr; rw [if_neg Bool.false_ne_true]; exact h⟩
def kNot (R : Bool → Oh → Prop) : Bool → Oh → Prop := fun b O => R (!b) O
instance {R : Bool → Oh → Prop} {Γ : Gm} {O : Oh} {xe : DX} {t : DT} : Go (dNot t Γ O R xe) (t Γ O (kNot R) xe) := ⟨fun h => h⟩
instance {R : Bool → Oh → Prop} {O : Oh} : Go (kNot R true O) (R false O) := ⟨fun h => h⟩
instance {R : Bool → Oh → Prop} {O : Oh} : Go (kNot R false O) (R true O) := ⟨fun h => h⟩
def kAndV (wb : DEx) (Γ : Gm) (R : DK) (xe : DX) : DK := fun r O => match r with
  | .d (.bool b) => if b = true then wb Γ O R xe else R (.d (.bool false)) O
  | _ => False
instance {R : DK} {Γ : Gm} {O : Oh} {xe : DX} {wa wb : DEx} : Go (dAndV wa wb Γ O R xe) (wa Γ O (kAndV wb Γ R xe) xe) := ⟨fun h => h⟩
instance {R : DK} {Γ : Gm} {O : Oh} {xe : DX} {wb : DEx} : Go (kAndV wb Γ R xe (.d (.bool true)) O) (wb Γ O R xe) := ⟨fun h => by unfold kAndV; dsimp only; rw [if_pos rfl]; exact h⟩
instance {R : DK} {Γ : Gm} {O : Oh} {xe : DX} {wb : DEx} : Go (kAndV wb Γ R xe (.d (.bool false)) O) (R (.d (.bool false)) O) := ⟨fun h => by unfold kAndV; dsimp only; rw [if_neg Bool.false_ne_true]; exact h⟩
def kOrV (wb : DEx) (Γ : Gm) (R : DK) (xe : DX) : DK := fun r O => match r with
  | .d (.bool b) => if b = true then R (.d (.bool true)) O else wb Γ O R xe
  | _ => False
instance {R : DK} {Γ : Gm} {O : Oh} {xe : DX} {wa wb : DEx} : Go (dOrV wa wb Γ O R xe) (wa Γ O (kOrV wb Γ R xe) xe) := ⟨fun h => h⟩
instance {R : DK} {Γ : Gm} {O : Oh} {xe : DX} {wb : DEx} : Go (kOrV wb Γ R xe (.d (.bool true)) O) (R (.d (.bool true)) O) := ⟨fun h => by unfold kOrV; dsimp only; rw [if_pos rfl]; exact h⟩
instance {R : DK} {Γ : Gm} {O : Oh} {xe : DX} {wb : DEx} : Go (kOrV wb Γ R xe (.d (.bool false)) O) (wb Γ O R xe) := ⟨fun h => by unfold kOrV; dsimp only; rw [if_neg Bool.false_ne_true]; exact h⟩
def kNotV (R : DK) : DK := fun r O => match r with
  | .d (.bool b) => R (.d (.bool (!b))) O
  | _ => False
instance {R : DK} {Γ : Gm} {O : Oh} {xe : DX} {w : DEx} : Go (dNotV w Γ O R xe) (w Γ O (kNotV R) xe) := ⟨fun h => h⟩
instance {R : DK} {O : Oh} {b : Bool} : Go (kNotV R (.d (.bool b)) O) (R (.d (.bool (!b))) O) := ⟨fun h => h⟩
def kIfE (wa wb : DEx) (Γ : Gm) (R : DK) (xe : DX) : Bool → Oh → Prop := fun b O => if b = true then wa Γ O R xe else wb Γ O R xe
instance {R : DK} {Γ : Gm} {O : Oh} {xe : DX} {t : DT} {wa wb : DEx} : Go (dIfE t wa wb Γ O R xe) (t Γ O (kIfE wa wb Γ R xe) xe) := ⟨fun h => h⟩
instance {R : DK} {Γ : Gm} {O : Oh} {xe : DX} {wa wb : DEx} : Go (kIfE wa wb Γ R xe true O) (wa Γ O R xe) := ⟨fun h => by unfold kIfE; rw [if_pos rfl]; exact h⟩
instance {R : DK} {Γ : Gm} {O : Oh} {xe : DX} {wa wb : DEx} : Go (kIfE wa wb Γ R xe false O) (wb Γ O R xe) := ⟨fun h => by unfold kIfE; rw [if_neg Bool.false_ne_true]; exact h⟩
instance {R : List W → Oh → Prop} {Γ : Gm} {O : Oh} {xe : DX} : Go (dNil Γ O R xe) (R [] O) := ⟨fun h => h⟩
def kCons2 (x : W) (R : List W → Oh → Prop) : List W → Oh → Prop := fun xs O => R (x :: xs) O
def kCons1 (ws : DA) (Γ : Gm) (R : List W → Oh → Prop) (xe : DX) : DK := fun x O => ws Γ O (kCons2 x R) xe
instance {R : List W → Oh → Prop} {Γ : Gm} {O : Oh} {xe : DX} {wa : DEx} {ws : DA} : Go (dCons wa ws Γ O R xe) (wa Γ O (kCons1 ws Γ R xe) xe) := ⟨fun h => h⟩
instance {R : List W → Oh → Prop} {Γ : Gm} {O : Oh} {xe : DX} {x : W} {ws : DA} : Go (kCons1 ws Γ R xe x O) (ws Γ O (kCons2 x R) xe) := ⟨fun h => h⟩
instance {R : List W → Oh → Prop} {O : Oh} {x : W} {xs : List W} : Go (kCons2 x R xs O) (R (x :: xs) O) := ⟨fun h => h⟩
def kTup (R : DK) : List W → Oh → Prop := fun ws O => match datas ws with
  | some ds => ds.length ≤ 1000000 ∧ R (.d (.tuple ds)) O
  | none => False
instance {R : DK} {Γ : Gm} {O : Oh} {xe : DX} {ws : DA} : Go (dTup ws Γ O R xe) (ws Γ O (kTup R) xe) := ⟨fun h => h⟩
theorem go_tuple {R : DK} {O : Oh} {ws : List W} {ds : List PyData} [d : Dats ws ds] [z : Sz ds] (h : R (.d (.tuple ds)) O) : kTup R ws O := by unfold kTup; rw [d.e]; exact ⟨z.e, h⟩
instance {R : DK} {O : Oh} {ws : List W} {ds : List PyData} [d : Dats ws ds] [z : Sz ds] : Go (kTup R ws O) (R (.d (.tuple ds)) O) := ⟨go_tuple⟩
def kLst (R : DK) : List W → Oh → Prop := fun ws O => match datas ws with
  | some ds => ds.length ≤ 1000000 ∧ R (.d (.list ds)) O
  | none => False
instance {R : DK} {Γ : Gm} {O : Oh} {xe : DX} {ws : DA} : Go (dLst ws Γ O R xe) (ws Γ O (kLst R) xe) := ⟨fun h => h⟩
theorem go_list {R : DK} {O : Oh} {ws : List W} {ds : List PyData} [d : Dats ws ds] [z : Sz ds] (h : R (.d (.list ds)) O) : kLst R ws O := by unfold kLst; rw [d.e]; exact ⟨z.e, h⟩
instance {R : DK} {O : Oh} {ws : List W} {ds : List PyData} [d : Dats ws ds] [z : Sz ds] : Go (kLst R ws O) (R (.d (.list ds)) O) := ⟨go_list⟩
def kLstC (R : DK) : List W → Oh → Prop := fun ws O => ws.length ≤ 1000000 ∧ R (.c O.length) (O ++ [.lst ws])
instance {R : DK} {Γ : Gm} {O : Oh} {xe : DX} {ws : DA} : Go (dLstC ws Γ O R xe) (ws Γ O (kLstC R) xe) := ⟨fun h => h⟩
theorem go_lstC {R : DK} {O O' : Oh} {j : Nat} {ws : List W} [z : Sz ws] [n : Nw O (.lst ws) j O'] (h : R (.c j) O') : kLstC R ws O := by refine ⟨z.e, ?_⟩; rw [n.e.1, n.e.2]; exact h
instance {R : DK} {O O' : Oh} {j : Nat} {ws : List W} [z : Sz ws] [n : Nw O (.lst ws) j O'] : Go (kLstC R ws O) (R (.c j) O') := ⟨go_lstC⟩
theorem go_dicK {R : DK} {O O' : Oh} {Γ : Gm} {xe : DX} {j : Nat} [n : Nw O (.dic []) j O'] (h : R (.c j) O') : dDicK Γ O R xe := by unfold dDicK; rw [n.e.1, n.e.2]; exact h
instance {R : DK} {O O' : Oh} {Γ : Gm} {xe : DX} {j : Nat} [n : Nw O (.dic []) j O'] : Go (dDicK Γ O R xe) (R (.c j) O') := ⟨go_dicK⟩
instance {R : DK} {O O' : Oh} {Γ : Gm} {xe : DX} {j : Nat} [n : Nw O (.dct []) j O'] : Go (dDicT Γ O R xe) (R (.c j) O') := ⟨fun h => by unfold dDicT; rw [n.e.1, n.e.2]; exact h⟩
instance {R : DK} {Γ : Gm} {O : Oh} {xe : DX} : Go (dDicE Γ O R xe) (R (.d (.dict [])) O) := ⟨fun h => h⟩
def kCB (f : DC) (R : DK) : List W → Oh → Prop := fun xs O => f xs O R
instance {R : DK} {Γ : Gm} {O : Oh} {xe : DX} {f : DC} {ws : DA} : Go (dCB f ws Γ O R xe) (ws Γ O (kCB f R) xe) := ⟨fun h => h⟩
instance {R : DK} {O : Oh} {f : DC} {xs : List W} : Go (kCB f R xs O) (f xs O R) := ⟨fun h => h⟩
def kC0 (f : DFn) (R : DK) : List W → Oh → Prop := fun xs O => f xs O R fun _ _ => False
instance {R : DK} {Γ : Gm} {O : Oh} {xe : DX} {f : DFn} {ws : DA} : Go (dCall0 f ws Γ O R xe) (ws Γ O (kC0 f R) xe) := ⟨fun h => h⟩
instance {R : DK} {O : Oh} {f : DFn} {xs : List W} : Go (kC0 f R xs O) (f xs O R fun _ _ => False) := ⟨fun h => h⟩
def kC (f : DFn) (Γ : Gm) (R : DK) (xe : DX) : List W → Oh → Prop := fun xs O => f xs O R fun ex O2 => xe ex Γ O2
instance {R : DK} {Γ : Gm} {O : Oh} {xe : DX} {f : DFn} {ws : DA} : Go (dCall f ws Γ O R xe) (ws Γ O (kC f Γ R xe) xe) := ⟨fun h => h⟩
instance {R : DK} {Γ : Gm} {O : Oh} {xe : DX} {f : DFn} {xs : List W} : Go (kC f Γ R xe xs O) (f xs O R fun ex O2 => xe ex Γ O2) := ⟨fun h => h⟩
def kNeg (R : DK) : DK := fun r O => match r with
  | .d (.int i) => R (.d (.int (-i))) O
  | _ => False
instance {R : DK} {Γ : Gm} {O : Oh} {xe : DX} {w : DEx} : Go (dNeg w Γ O R xe) (w Γ O (kNeg R) xe) := ⟨fun h => h⟩
instance {R : DK} {O : Oh} {i : Int} : Go (kNeg R (.d (.int i)) O) (R (.d (.int (-i))) O) := ⟨fun h => h⟩
/-- what type a thing has -/
class TyW (x : W) (O : Oh) (t : outParam String) : Prop where
  e : tyW x O = some t
instance {O : Oh} : TyW (.d (.none)) O "NoneType" := ⟨rfl⟩
instance {b : Bool} {O : Oh} : TyW (.d (.bool b)) O "bool" := ⟨rfl⟩
instance {i : Int} {O : Oh} : TyW (.d (.int i)) O "int" := ⟨rfl⟩
instance {s : Str} {O : Oh} : TyW (.d (.str s)) O "str" := ⟨rfl⟩
instance {l : List PyData} {O : Oh} : TyW (.d (.list l)) O "list" := ⟨rfl⟩
instance {l : List PyData} {O : Oh} : TyW (.d (.tuple l)) O "tuple" := ⟨rfl⟩
instance {O : Oh} : TyW (.d (.dict [])) O "dict" := ⟨rfl⟩
class SubT (t T : String) (b : outParam Bool) : Prop where
  e : subT t T = b
instance : SubT "NoneType" "bool" false := ⟨by decide⟩
instance : SubT "NoneType" "int" false := ⟨by decide⟩
instance : SubT "NoneType" "str" false := ⟨by decide⟩
instance : SubT "NoneType" "list" false := ⟨by decide⟩
instance : SubT "NoneType" "tuple" false := ⟨by decide⟩
instance : SubT "NoneType" "dict" false := ⟨by decide⟩
instance : SubT "bool" "bool" true := ⟨by decide⟩
instance : SubT "bool" "int" true := ⟨by decide⟩
instance : SubT "bool" "str" false := ⟨by decide⟩
instance : SubT "bool" "list" false := ⟨by decide⟩
instance : SubT "bool" "tuple" false := ⟨by decide⟩
instance : SubT "bool" "dict" false := ⟨by decide⟩
instance : SubT "int" "bool" false := ⟨by decide⟩
instance : SubT "int" "int" true := ⟨by decide⟩
instance : SubT "int" "str" false := ⟨by decide⟩
instance : SubT "int" "list" false := ⟨by decide⟩
instance : SubT "int" "tuple" false := ⟨by decide⟩
instance : SubT "int" "dict" false := ⟨by decide⟩
instance : SubT "str" "bool" false := ⟨by decide⟩
instance : SubT "str" "int" false := ⟨by decide⟩
instance : SubT "str" "str" true := ⟨by decide⟩
instance : SubT "str" "list" false := ⟨by decide⟩
instance : SubT "str" "tuple" false := ⟨by decide⟩
instance : SubT "str" "dict" false := ⟨by decide⟩
instance : SubT "list" "bool" false := ⟨by decide⟩
instance : SubT "list" "int" false := ⟨by decide⟩
instance : SubT "list" "str" false := ⟨by decide⟩
instance : SubT "list" "list" true := ⟨by decide⟩
instance : SubT "list" "tuple" false := ⟨by decide⟩
instance : SubT "list" "dict" false := ⟨by decide⟩
instance : SubT "tuple" "bool" false := ⟨by decide⟩
instance : SubT "tuple" "int" false := ⟨by decide⟩
instance : SubT "tuple" "str" false := ⟨by decide⟩
instance : SubT "tuple" "list" false := ⟨by decide⟩
instance : SubT "tuple" "tuple" true := ⟨by decide⟩
instance : SubT "tuple" "dict" false := ⟨by decide⟩
instance : SubT "dict" "bool" false := ⟨by decide⟩
instance : SubT "dict" "int" false := ⟨by decide⟩
instance : SubT "dict" "str" false := ⟨by decide⟩
instance : SubT "dict" "list" false := ⟨by decide⟩
instance : SubT "dict" "tuple" false := ⟨by decide⟩
instance : SubT "dict" "dict" true := ⟨by decide⟩
def kIsi (T : String) (R : DK) : DK := fun x O => match tyW x O with
  | some t => R (.d (.bool (subT t T))) O
  | none => False
instance {R : DK} {Γ : Gm} {O : Oh} {xe : DX} {T : String} {w : DEx} : Go (dIsi T w Γ O R xe) (w Γ O (kIsi T R) xe) := ⟨fun h => h⟩
theorem go_isi {R : DK} {O : Oh} {T t : String} {x : W} {b : Bool} [h1 : TyW x O t] [h2 : SubT t T b] (h : R (.d (.bool b)) O) : kIsi T R x O := by unfold kIsi; rw [h1.e]; dsimp only; rw [h2.e]; exact h
instance {R : DK} {O : Oh} {T t : String} {x : W} {b : Bool} [h1 : TyW x O t] [h2 : SubT t T b] : Go (kIsi T R x O) (R (.d (.bool b)) O) := ⟨go_isi⟩
/-! #### slices, ends -/
instance {R : Option Int → Oh → Prop} {Γ : Gm} {O : Oh} {xe : DX} : Go (dO0 Γ O R xe) (R none O) := ⟨fun h => h⟩
def kO1 (R : Option Int → Oh → Prop) : DK := fun x O => match x with
  | .d (.int i) => R (some i) O
  | _ => False
instance {R : Option Int → Oh → Prop} {Γ : Gm} {O : Oh} {xe : DX} {w : DEx} : Go (dO1 w Γ O R xe) (w Γ O (kO1 R) xe) := ⟨fun h => h⟩
instance {R : Option Int → Oh → Prop} {O : Oh} {i : Int} : Go (kO1 R (.d (.int i)) O) (R (some i) O) := ⟨fun h => h⟩
def kSl3 (x : W) (lo : Option Int) (R : DK) : Option Int → Oh → Prop := fun hi O => dSl x lo hi O R
def kSl2 (x : W) (wh : DO) (Γ : Gm) (R : DK) (xe : DX) : Option Int → Oh → Prop := fun lo O => wh Γ O (kSl3 x lo R) xe
def kSl1 (wl wh : DO) (Γ : Gm) (R : DK) (xe : DX) : DK := fun x O => wl Γ O (kSl2 x wh Γ R xe) xe
instance {R : DK} {Γ : Gm} {O : Oh} {xe : DX} {wo : DEx} {wl wh : DO} : Go (dSlice wo wl wh Γ O R xe) (wo Γ O (kSl1 wl wh Γ R xe) xe) := ⟨fun h => h⟩
instance {R : DK} {Γ : Gm} {O : Oh} {xe : DX} {x : W} {wl wh : DO} : Go (kSl1 wl wh Γ R xe x O) (wl Γ O (kSl2 x wh Γ R xe) xe) := ⟨fun h => h⟩
instance {R : DK} {Γ : Gm} {O : Oh} {xe : DX} {x : W} {wh : DO} {lo : Option Int} : Go (kSl2 x wh Γ R xe lo O) (wh Γ O (kSl3 x lo R) xe) := ⟨fun h => h⟩
instance {R : DK} {O : Oh} {x : W} {lo hi : Option Int} : Go (kSl3 x lo R hi O) (dSl x lo hi O R) := ⟨fun h => h⟩
instance {R : DK} {O : Oh} {ds : List PyData} {lo hi : Option Int} : Go (dSl (.d (.tuple ds)) lo hi O R) (R (.d (.tuple (cutL ds lo hi))) O) := ⟨fun h => h⟩
instance {R : DK} {O : Oh} {ds : List PyData} {lo hi : Option Int} : Go (dSl (.d (.list ds)) lo hi O R) (R (.d (.list (cutL ds lo hi))) O) := ⟨fun h => h⟩
class AsL (x : W) (O : Oh) (ws : outParam (List W)) : Prop where
  e : asL x O = some ws
instance {O : Oh} {ds : List PyData} {ws : List W} [m : MapD ds ws] : AsL (.d (.list ds)) O ws := ⟨by rw [← m.e]; rfl⟩
instance {O : Oh} {j : Nat} {ws : List W} [g : Cl O j (.lst ws)] : AsL (.c j) O ws := ⟨by unfold asL; dsimp only; rw [g.e]⟩
class AsS (x : W) (O : Oh) (ws : outParam (List W)) : Prop where
  e : asS x O = some ws
instance {O : Oh} {ds : List PyData} {ws : List W} [m : MapD ds ws] : AsS (.d (.list ds)) O ws := ⟨by rw [← m.e]; rfl⟩
instance {O : Oh} {ds : List PyData} {ws : List W} [m : MapD ds ws] : AsS (.d (.tuple ds)) O ws := ⟨by rw [← m.e]; rfl⟩
instance {O : Oh} {ds : List PyData} {ws : List W} [m : MapD ds ws] : AsS (.p ds) O ws := ⟨by rw [← m.e]; rfl⟩
instance {O : Oh} {j : Nat} {ws : List W} [g : Cl O j (.lst ws)] : AsS (.c j) O ws := ⟨by unfold asS; dsimp only; rw [g.e]⟩
instance {O : Oh} {ns : List Int} : AsS (.d (.dict [(.none, .list (ns.map PyData.int))])) O ((ns.map PyData.int).map W.d) := ⟨rfl⟩
class NoDk (x : W) (O : Oh) : Prop where
  e : asDk x O = none
instance {O : Oh} : NoDk (.d .none) O := ⟨rfl⟩
instance {O : Oh} {b : Bool} : NoDk (.d (.bool b)) O := ⟨rfl⟩
instance {O : Oh} {i : Int} : NoDk (.d (.int i)) O := ⟨rfl⟩
instance {O : Oh} {s : Str} : NoDk (.d (.str s)) O := ⟨rfl⟩
instance {O : Oh} {l : List PyData} : NoDk (.d (.list l)) O := ⟨rfl⟩
instance {O : Oh} {l : List PyData} : NoDk (.d (.tuple l)) O := ⟨rfl⟩
instance {O : Oh} {l : PyData} : NoDk (.d (.dict [(.none, l)])) O := ⟨rfl⟩
instance {O : Oh} {ds : List PyData} : NoDk (.p ds) O := ⟨rfl⟩
instance {O : Oh} {j : Nat} {ws : List W} [g : Cl O j (.lst ws)] : NoDk (.c j) O := ⟨by unfold asDk; dsimp only; rw [g.e]⟩
class IsDk (x : W) (O : Oh) (kvs : outParam (List (Key × W))) : Prop where
  e : asDk x O = some kvs
instance {O : Oh} {j : Nat} {kvs : List (Key × W)} [g : Cl O j (.dic kvs)] : IsDk (.c j) O kvs := ⟨by unfold asDk; dsimp only; rw [g.e]⟩
instance {O : Oh} {j : Nat} {od : Obj} {es : List (Key × V)} {kvs : List (Key × W)} [g : Cl O j (.ldic od es kvs)] : IsDk (.c j) O kvs := ⟨by unfold asDk; dsimp only; rw [g.e]⟩
class NoDi (x : W) (O : Oh) : Prop where
  e : isDictW x O = false
instance {O : Oh} : NoDi (.d .none) O := ⟨rfl⟩
instance {O : Oh} {b : Bool} : NoDi (.d (.bool b)) O := ⟨rfl⟩
instance {O : Oh} {i : Int} : NoDi (.d (.int i)) O := ⟨rfl⟩
instance {O : Oh} {s : Str} : NoDi (.d (.str s)) O := ⟨rfl⟩
instance {O : Oh} {l : List PyData} : NoDi (.d (.list l)) O := ⟨rfl⟩
instance {O : Oh} {l : List PyData} : NoDi (.d (.tuple l)) O := ⟨rfl⟩
instance {O : Oh} {l : PyData} : NoDi (.d (.dict [(.none, l)])) O := ⟨rfl⟩
instance {O : Oh} {ds : List PyData} : NoDi (.p ds) O := ⟨rfl⟩
instance {O : Oh} {j : Nat} {ws : List W} [g : Cl O j (.lst ws)] : NoDi (.c j) O := ⟨by unfold isDictW asDk asDt; dsimp only; rw [g.e]; rfl⟩
/-- a list, not of literal shape, is the answer -/
theorem sl_own {x : W} {O : Oh} {ws : List W} {ds : List PyData} {lo hi : Option Int} {R : DK} {j : Nat} [g : Cl O j (.lst ws)] [d : Dats ws ds] (h : R (.d (.list (cutL ds lo hi))) O) : dSl (.c j) lo hi O R := by
  have e : asL (.c j) O = some ws := by unfold asL; dsimp only; rw [g.e]
  unfold dSl
  dsimp only
  rw [e]
  dsimp only
  rw [d.e]
  exact h
instance {O : Oh} {ws : List W} {ds : List PyData} {lo hi : Option Int} {R : DK} {j : Nat} [g : Cl O j (.lst ws)] [d : Dats ws ds] : Go (dSl (.c j) lo hi O R) (R (.d (.list (cutL ds lo hi))) O) := ⟨sl_own (x := .c j)⟩
def kRevL (R : DK) : DK := fun x O => match asL x O with
  | some ws => (match datas ws with
    | some ds => R (.d (.list ds.reverse)) O
    | none => False)
  | none => False
instance {R : DK} {Γ : Gm} {O : Oh} {xe : DX} {w : DEx} : Go (dRevL w Γ O R xe) (w Γ O (kRevL R) xe) := ⟨fun h => h⟩
instance {R : DK} {O : Oh} {x : W} {ws : List W} {ds : List PyData} [a : AsL x O ws] [d : Dats ws ds] : Go (kRevL R x O) (R (.d (.list ds.reverse)) O) := ⟨fun h => by unfold kRevL; rw [a.e]; dsimp only; rw [d.e]; exact h⟩
/-! #### subscripts -/
theorem ix2_of {x : W} {O : Oh} {ws : List W} {i : Int} {w : W} {R : DK} [n : NoDi x O] [a : AsS x O ws] (hi : atI ws i = some w) (h : R w O) : dIx2 x (.d (.int i)) O R := by
  unfold dIx2
  rw [if_neg (by rw [n.e]; exact Bool.false_ne_true)]
  unfold dIx
  split
  · have := a.e; cases this
  · next e1 e2 =>
    cases e2
    rw [a.e]
    dsimp only
    rw [hi]
    exact h
  · next h1 _ => exact (h1 _ rfl).elim
theorem atI_nat {α : Type} {ws : List α} {m : Nat} {w : α} (h : ws[m]? = some w) : atI ws (m : Nat) = some w := by
  have hl := (List.getElem?_eq_some_iff.mp h).1
  unfold atI ixN
  simp [hl]
  exact (List.getElem?_eq_some_iff.mp h).2
/-! #### operators -/
instance {R : DK} {O : Oh} {i j : Int} {g : Int → Int → PyData} : Go (dI20 g (.d (.int i)) (.d (.int j)) O R) (R (.d (g i j)) O) := ⟨fun h => h⟩
instance {R : DK} {O : Oh} {i j : Int} {C : Int → Int → Prop} {g : Int → Int → PyData} : Go (dI2 C g (.d (.int i)) (.d (.int j)) O R) (C i j ∧ R (.d (g i j)) O) := ⟨fun h => h⟩
instance {R : DK} {O : Oh} {i j : Int} : Go (dAdd (.d (.int i)) (.d (.int j)) O R) (R (.d (.int (i + j))) O) := ⟨fun h => h⟩
instance {R : DK} {O : Oh} {i j : Int} : Go (dLt2 (.d (.int i)) (.d (.int j)) O R) (R (.d (.bool (decide (i < j)))) O) := ⟨fun h => h⟩
instance {R : DK} {O : Oh} {i j : Int} : Go (dGt2 (.d (.int i)) (.d (.int j)) O R) (R (.d (.bool (decide (j < i)))) O) := ⟨fun h => h⟩
theorem dcase {R : Bool → Oh → Prop} {O : Oh} {p : Prop} [i : Decidable p] (h1 : p → R true O) (h2 : ¬ p → R false O) : R (decide p) O := by
  by_cases z : p
  · rw [decide_eq_true z]; exact h1 z
  · rw [decide_eq_false z]; exact h2 z
instance {O : Oh} {R : DK} {i j : Int} : Go (dEq (.d (.int i)) (.d (.int j)) O R) (R (.d (.bool (decide (i = j)))) O) := ⟨fun h => ⟨rfl, rfl, by
  have e : PyData.eqv (.int i) (.int j) = decide (i = j) := by simp [PyData.eqv]; rfl
  rw [e]; exact h⟩⟩
instance {O : Oh} {R : DK} {i j : Int} : Go (dNe (.d (.int i)) (.d (.int j)) O R) (R (.d (.bool (decide (i ≠ j)))) O) := ⟨fun h => ⟨rfl, rfl, by
  rw [decide_not] at h
  have e : PyData.eqv (.int i) (.int j) = decide (i = j) := by simp [PyData.eqv]; rfl
  rw [e]; exact h⟩⟩
theorem eqv_str (a b : Str) : PyData.eqv (.str a) (.str b) = decide (a = b) := by
  unfold PyData.eqv
  by_cases z : a = b
  · subst z; simp
  · simp [z]
instance {O : Oh} {R : DK} {i j : Str} : Go (dEq (.d (.str i)) (.d (.str j)) O R) (R (.d (.bool (decide (i = j)))) O) := ⟨fun h => ⟨rfl, rfl, by
  rw [eqv_str]; exact h⟩⟩
instance {O : Oh} {R : DK} {i j : Str} : Go (dNe (.d (.str i)) (.d (.str j)) O R) (R (.d (.bool (decide (i ≠ j)))) O) := ⟨fun h => ⟨rfl, rfl, by
  rw [decide_not] at h
  rw [eqv_str]; exact h⟩⟩
instance {O : Oh} {R : DK} {i j : Int} : Go (dMax [.d (.int i), .d (.int j)] O R) (R (.d (.int (if j > i then j else i))) O) := ⟨fun h => h⟩
instance {O : Oh} {R : DK} {i j : Int} : Go (dMin [.d (.int i), .d (.int j)] O R) (R (.d (.int (if j < i then j else i))) O) := ⟨fun h => h⟩
instance {O : Oh} {R : DK} {i : Int} : Go (dAbs [.d (.int i)] O R) (R (.d (.int (if i < 0 then -i else i))) O) := ⟨fun h => h⟩
class NStr (x : W) : Prop where
  e : ∀ s, x ≠ .d (.str s)
instance {l : List PyData} : NStr (.d (.list l)) := ⟨fun s h => by cases h⟩
instance {l : List PyData} : NStr (.d (.tuple l)) := ⟨fun s h => by cases h⟩
instance {l : List (PyData × PyData)} : NStr (.d (.dict l)) := ⟨fun s h => by cases h⟩
instance {j : Nat} : NStr (.c j) := ⟨fun s h => by cases h⟩
theorem go_len {O : Oh} {R : DK} {x : W} {ws : List W} [n : NStr x] [a : AsS x O ws] (h : R (.d (.int (ws.length : Nat))) O) : dLen [x] O R := by
  unfold dLen
  split
  · next e => cases e; exact (n.e _ rfl).elim
  · next e => cases e; rw [a.e]; exact h
  · next h1 h2 => exact (h2 _ rfl).elim
instance {O : Oh} {R : DK} {x : W} {ws : List W} [n : NStr x] [a : AsS x O ws] : Go (dLen [x] O R) (R (.d (.int (ws.length : Nat))) O) := ⟨go_len⟩
theorem go_tupOf {O : Oh} {R : DK} {x : W} {ws : List W} {ds : List PyData} [a : AsL x O ws] [d : Dats ws ds] (h : R (.d (.tuple ds)) O) : dTupOf [x] O R := by
  unfold dTupOf
  split
  · next e => cases e; have := a.e; cases this
  · next e => cases e; rw [a.e]; dsimp only; rw [d.e]; exact h
  · next h1 h2 => exact (h2 _ rfl).elim
instance {O : Oh} {R : DK} {x : W} {ws : List W} {ds : List PyData} [a : AsL x O ws] [d : Dats ws ds] : Go (dTupOf [x] O R) (R (.d (.tuple ds)) O) := ⟨go_tupOf⟩
instance {O : Oh} {R : DK} {ds : List PyData} : Go (dTupOf [.d (.tuple ds)] O R) (R (.d (.tuple ds)) O) := ⟨fun h => h⟩
instance {O : Oh} {R : DK} {x : W} {ws : List W} {ds : List PyData} [n : NoDk x O] [a : AsS x O ws] [d : Dats ws ds] : Go (dListOf2 [x] O R) (R (.d (.list ds)) O) := ⟨fun h => by
  unfold dListOf2; dsimp only; rw [n.e]; dsimp only; unfold dListOf; dsimp only; rw [a.e]; dsimp only; rw [d.e]; exact h⟩
theorem go_listC {O O' : Oh} {R : DK} {x : W} {ws : List W} {j : Nat} [k : NoDk x O] [a : AsS x O ws] [n : Nw O (.lst ws) j O'] (h : R (.c j) O') : dListC2 [x] O R := by
  unfold dListC2; dsimp only; rw [k.e]; dsimp only; unfold dListC; dsimp only; rw [a.e]; dsimp only; rw [n.e.1, n.e.2]; exact h
instance {O O' : Oh} {R : DK} {x : W} {ws : List W} {j : Nat} [k : NoDk x O] [a : AsS x O ws] [n : Nw O (.lst ws) j O'] : Go (dListC2 [x] O R) (R (.c j) O') := ⟨go_listC⟩
/-! #### methods -/
def kBM2 (f : DM) (x : W) (R : DK) : List W → Oh → Prop := fun xs O => f x xs O R
def kBM1 (tw : W → Oh → Bool) (f : DM) (ws : DA) (Γ : Gm) (R : DK) (xe : DX) : DK := fun x O => tw x O = true ∧ ws Γ O (kBM2 f x R) xe
instance {R : DK} {Γ : Gm} {O : Oh} {xe : DX} {tw : W → Oh → Bool} {f : DM} {wo : DEx} {ws : DA} : Go (dBM tw f wo ws Γ O R xe) (wo Γ O (kBM1 tw f ws Γ R xe) xe) := ⟨fun h => h⟩
class Tw (tw : W → Oh → Bool) (x : W) (O : Oh) : Prop where
  e : tw x O = true
instance {O : Oh} {j : Nat} {ws : List W} [g : Cl O j (.lst ws)] : Tw isLstW (.c j) O := ⟨by unfold isLstW; dsimp only; rw [g.e]⟩
instance {O : Oh} {ds : List PyData} : Tw isLstW (.d (.list ds)) O := ⟨rfl⟩
instance {O : Oh} {s : Str} : Tw isStrW (.d (.str s)) O := ⟨rfl⟩
instance {O : Oh} {j : Nat} {ws : List (Key × W)} [g : Cl O j (.dic ws)] : Tw isDicW (.c j) O := ⟨by unfold isDicW; dsimp only; rw [g.e]⟩
instance {O : Oh} {j : Nat} {ws : List (List Key × W)} [g : Cl O j (.dct ws)] : Tw isDicW (.c j) O := ⟨by unfold isDicW; dsimp only; rw [g.e]⟩
instance {R : DK} {Γ : Gm} {O : Oh} {xe : DX} {tw : W → Oh → Bool} {f : DM} {ws : DA} {x : W} [t : Tw tw x O] : Go (kBM1 tw f ws Γ R xe x O) (ws Γ O (kBM2 f x R) xe) := ⟨fun h => ⟨t.e, h⟩⟩
instance {R : DK} {O : Oh} {f : DM} {x : W} {xs : List W} : Go (kBM2 f x R xs O) (f x xs O R) := ⟨fun h => h⟩
theorem go_append {O O' : Oh} {R : DK} {j : Nat} {y : W} {ws ws' : List W} [g : Cl O j (.lst ws)] (hz : ws.length < 1000000) (e : ws ++ [y] = ws') [s : St O j (.lst ws') O'] (h : R (.d .none) O') : dAppend (.c j) [y] O R := by
  unfold dAppend; dsimp only; rw [g.e]; dsimp only; rw [e, s.e]; exact ⟨hz, h⟩
theorem go_popAt {O O' : Oh} {R : DK} {j m : Nat} {i : Int} {y : W} {ws ws' : List W} [g : Cl O j (.lst ws)] (hz : ws.length ≤ 1000000) (hi : ixN ws.length i = some m) (hy : ws[m]? = some y) (e : ws.eraseIdx m = ws') [s : St O j (.lst ws') O'] (h : R y O') : dPopAt (.c j) [.d (.int i)] O R := by
  unfold dPopAt; dsimp only; rw [g.e]; dsimp only; rw [hi]; dsimp only; rw [hy]; dsimp only; rw [e, s.e]; exact ⟨hz, h⟩
def kTM2 (f : DM) (x : W) (R : DK) : List W → Oh → Prop := fun xs O => f x xs O R
def kTM1 (f : DM) (ws : DA) (Γ : Gm) (R : DK) (xe : DX) : DK := fun o O => match o with
  | .d (.tuple ds) => ws Γ O (kTM2 f (.d (.tuple ds)) R) xe
  | _ => False
instance {R : DK} {Γ : Gm} {O : Oh} {xe : DX} {f : DM} {wo : DEx} {ws : DA} : Go (dTM f wo ws Γ O R xe) (wo Γ O (kTM1 f ws Γ R xe) xe) := ⟨fun h => h⟩
instance {R : DK} {Γ : Gm} {O : Oh} {xe : DX} {f : DM} {ws : DA} {ds : List PyData} : Go (kTM1 f ws Γ R xe (.d (.tuple ds)) O) (ws Γ O (kTM2 f (.d (.tuple ds)) R) xe) := ⟨fun h => h⟩
instance {R : DK} {O : Oh} {f : DM} {x : W} {xs : List W} : Go (kTM2 f x R xs O) (f x xs O R) := ⟨fun h => h⟩
/-! #### .. is None, -set -/
instance {O : Oh} {R : DK} {neg : Bool} {x : W} : Go (dIs2 neg x (.d .none) O R) (R (.d (.bool (if neg then !isNone x else isNone x))) O) := ⟨fun h => h⟩
instance {O : Oh} {R : DK} {neg a b : Bool} : Go (dIs2 neg (.d (.bool a)) (.d (.bool b)) O R) (R (.d (.bool (if neg then !decide (a = b) else decide (a = b)))) O) := ⟨fun h => h⟩
def kLenSet (R : DK) : DK := fun x O => match asL x O with
  | some ws => (match datas ws with
    | some ds => (match strsD ds with
      | some ys => ys.length ≤ 1000 ∧ R (.d (.int ((met ys).length : Nat))) O
      | none => False)
    | none => False)
  | none => False
instance {R : DK} {Γ : Gm} {O : Oh} {xe : DX} {w : DEx} : Go (dLenSet w Γ O R xe) (w Γ O (kLenSet R) xe) := ⟨fun h => h⟩
/-! #### chains -/
def kCh4 (f : D2) (y : W) (R : DK) : DK := fun w O => f y w O R
def kCh3 (f : D2) (wc : DEx) (y : W) (Γ : Gm) (R : DK) (xe : DX) : DK := fun z O => match z with
  | .d (.bool t) => if t = true then wc Γ O (kCh4 f y R) xe else R (.d (.bool false)) O
  | _ => False
def kCh2 (f f' : D2) (wc : DEx) (x : W) (Γ : Gm) (R : DK) (xe : DX) : DK := fun y O => f x y O (kCh3 f' wc y Γ R xe)
def kCh1 (f f' : D2) (wb wc : DEx) (Γ : Gm) (R : DK) (xe : DX) : DK := fun x O => wb Γ O (kCh2 f f' wc x Γ R xe) xe
instance {R : DK} {Γ : Gm} {O : Oh} {xe : DX} {f f' : D2} {wa wb wc : DEx} : Go (dChain f f' wa wb wc Γ O R xe) (wa Γ O (kCh1 f f' wb wc Γ R xe) xe) := ⟨fun h => h⟩
instance {R : DK} {Γ : Gm} {O : Oh} {xe : DX} {f f' : D2} {wb wc : DEx} {x : W} : Go (kCh1 f f' wb wc Γ R xe x O) (wb Γ O (kCh2 f f' wc x Γ R xe) xe) := ⟨fun h => h⟩
instance {R : DK} {Γ : Gm} {O : Oh} {xe : DX} {f f' : D2} {wc : DEx} {x y : W} : Go (kCh2 f f' wc x Γ R xe y O) (f x y O (kCh3 f' wc y Γ R xe)) := ⟨fun h => h⟩
instance {R : DK} {Γ : Gm} {O : Oh} {xe : DX} {f : D2} {wc : DEx} {y : W} : Go (kCh3 f wc y Γ R xe (.d (.bool true)) O) (wc Γ O (kCh4 f y R) xe) := ⟨fun h => by unfold kCh3; dsimp only; rw [if_pos rfl]; exact h⟩
instance {R : DK} {Γ : Gm} {O : Oh} {xe : DX} {f : D2} {wc : DEx} {y : W} : Go (kCh3 f wc y Γ R xe (.d (.bool false)) O) (R (.d (.bool false)) O) := ⟨fun h => by unfold kCh3; dsimp only; rw [if_neg Bool.false_ne_true]; exact h⟩
instance {R : DK} {O : Oh} {f : D2} {y w : W} : Go (kCh4 f y R w O) (f y w O R) := ⟨fun h => h⟩
/-! #### walks -/
def kSeqI (S : List W → (Oh → Prop) → Oh → Prop) : DK := fun r O1 => match r with
  | .d (.list ds) => S (ds.map W.d) (fun _ => True) O1
  | .d (.tuple ds) => S (ds.map W.d) (fun _ => True) O1
  | .c k => match O1[k]? with
    | some (.lst ws) => S ws (fun O => O[k]? = some (.lst ws)) O1
    | _ => False
  | _ => False
instance {S : List W → (Oh → Prop) → Oh → Prop} {Γ : Gm} {O : Oh} {xe : DX} {w : DEx} : Go (dSeqI w Γ O S xe) (w Γ O (kSeqI S) xe) := ⟨fun h => h⟩
instance {S : List W → (Oh → Prop) → Oh → Prop} {O : Oh} {ds : List PyData} : Go (kSeqI S (.d (.list ds)) O) (S (ds.map W.d) (fun _ => True) O) := ⟨fun h => h⟩
instance {S : List W → (Oh → Prop) → Oh → Prop} {O : Oh} {ds : List PyData} : Go (kSeqI S (.d (.tuple ds)) O) (S (ds.map W.d) (fun _ => True) O) := ⟨fun h => h⟩
instance {S : List W → (Oh → Prop) → Oh → Prop} {O : Oh} {k : Nat} {ws : List W} [g : Cl O k (.lst ws)] : Go (kSeqI S (.c k) O) (S ws (fun O => O[k]? = some (.lst ws)) O) := ⟨fun h => by unfold kSeqI; dsimp only; rw [g.e]; exact h⟩
def kRng (S : List W → (Oh → Prop) → Oh → Prop) : List W → Oh → Prop := fun vs O1 => match vs with
  | [.d (.int j)] => j < 4611686018427387904 ∧ -4611686018427387904 ≤ j ∧ S (rgW 0 j.toNat) (fun _ => True) O1
  | _ => False
instance {S : List W → (Oh → Prop) → Oh → Prop} {Γ : Gm} {O : Oh} {xe : DX} {ws : DA} : Go (dRng1 ws Γ O S xe) (ws Γ O (kRng S) xe) := ⟨fun h => h⟩
theorem go_rng {S : List W → (Oh → Prop) → Oh → Prop} {O : Oh} {n : Nat} (hn : n < 4611686018427387904) (h : S (rgW 0 n) (fun _ => True) O) : kRng S [.d (.int (n : Nat))] O := ⟨by omega, by omega, by rw [Int.toNat_natCast]; exact h⟩
def kEnum (S : List W → (Oh → Prop) → Oh → Prop) : List W → Oh → Prop := fun xs O1 => match xs with
  | [x] => (match asFz x with
    | some ds => S (enumW 0 ds) (fun _ => True) O1
    | none => False)
  | _ => False
instance {S : List W → (Oh → Prop) → Oh → Prop} {Γ : Gm} {O : Oh} {xe : DX} {ws : DA} : Go (dEnum ws Γ O S xe) (ws Γ O (kEnum S) xe) := ⟨fun h => h⟩
instance {S : List W → (Oh → Prop) → Oh → Prop} {O : Oh} {ds : List PyData} : Go (kEnum S [.d (.tuple ds)] O) (S (enumW 0 ds) (fun _ => True) O) := ⟨fun h => h⟩
instance {S : List W → (Oh → Prop) → Oh → Prop} {O : Oh} {ds : List PyData} : Go (kEnum S [.d (.list ds)] O) (S (enumW 0 ds) (fun _ => True) O) := ⟨fun h => h⟩
def kFor (t : Tg) (body : DSt) (D : DEnds) (xe : DX) (Γ : Gm) : List W → (Oh → Prop) → Oh → Prop := fun xs ok O1 => forGo ok t body D xe xs Γ O1
instance {f b c : Gm → Oh → Prop} {r : DK} {Γ : Gm} {O : Oh} {xe : DX} {w : DI} {t : Tg} {body : DSt} : Go (dFor w t body ⟨f, r, b, c⟩ xe Γ O) (w Γ O (kFor t body ⟨f, r, b, c⟩ xe Γ) xe) := ⟨fun h => h⟩
instance {Γ : Gm} {O : Oh} {xe : DX} {D : DEnds} {t : Tg} {body : DSt} {xs : List W} {ok : Oh → Prop} : Go (kFor t body D xe Γ xs ok O) (forGo ok t body D xe xs Γ O) := ⟨fun h => h⟩
def kLc (t : Tg) (tt : DT) (we : DEx) (Γ : Gm) (R : DK) : List W → (Oh → Prop) → Oh → Prop := fun xs ok O1 => lcGo ok t tt we Γ (fun acc O2 => R (.d (.list acc)) O2) xs [] O1
class Wipe (Γ : Gm) (own : List Nat) (Γ' : outParam Gm) : Prop where
  e : wipeG Γ own = Γ'
instance {Γ : Gm} : Wipe Γ [] Γ := ⟨rfl⟩
instance {Γ Γ1 Γ2 : Gm} {v : Nat} {vs : List Nat} [w : Wipe Γ vs Γ1] [p : Put Γ1 v none Γ2] : Wipe Γ (v :: vs) Γ2 := ⟨by show (wipeG Γ vs).set v none = _; rw [w.e, p.e]⟩
instance {R : DK} {Γ Γ' : Gm} {O : Oh} {xe : DX} {w : DI} {t : Tg} {tt : DT} {we : DEx} {own : List Nat} [z : Wipe Γ own Γ'] : Go (dLc w t tt we own Γ O R xe) (w Γ O (kLc t tt we Γ' R) xe) := ⟨fun h => by unfold dLc; rw [z.e]; exact h⟩
instance {R : DK} {Γ : Gm} {O : Oh} {t : Tg} {tt : DT} {we : DEx} {xs : List W} {ok : Oh → Prop} : Go (kLc t tt we Γ R xs ok O) (lcGo ok t tt we Γ (fun acc O2 => R (.d (.list acc)) O2) xs [] O) := ⟨fun h => h⟩
/-- a walk, by what stays so -/
theorem for_rule {f b c : Gm → Oh → Prop} {r : DK} {ok : Oh → Prop} {t : Tg} {body : DSt} {xe : DX} {xs : List W} {Γ : Gm} {O : Oh} (I : List W → Gm → Oh → Prop) (h : I xs Γ O)
    (h0 : ∀ Γ O, I [] Γ O → ok O ∧ f Γ O)
    (h1 : ∀ x q Γ O, I (x :: q) Γ O → ok O ∧ ∀ C : Gm → Oh → Prop, (∀ Γ' O', I q Γ' O' → C Γ' O') → t.put x Γ fun Γ1 => body ⟨C, r, f, C⟩ xe Γ1 O) : forGo ok t body ⟨f, r, b, c⟩ xe xs Γ O := by
  induction xs generalizing Γ O with
  | nil => exact h0 _ _ h
  | cons x q ih =>
    obtain ⟨a, k⟩ := h1 _ _ _ _ h
    exact ⟨a, k _ fun Γ' O' i => ih i⟩
def kLcT (we : DEx) (Γ : Gm) (C : DK) (N : Oh → Prop) : Bool → Oh → Prop := fun b O => if b = true then we Γ O C X0 else N O
instance {we : DEx} {Γ : Gm} {C : DK} {N : Oh → Prop} {O : Oh} : Go (kLcT we Γ C N true O) (we Γ O C X0) := ⟨fun h => by unfold kLcT; rw [if_pos rfl]; exact h⟩
instance {we : DEx} {Γ : Gm} {C : DK} {N : Oh → Prop} {O : Oh} : Go (kLcT we Γ C N false O) (N O) := ⟨fun h => by unfold kLcT; rw [if_neg Bool.false_ne_true]; exact h⟩
/-- a list that is made, by what stays so -/
theorem lc_rule {ok : Oh → Prop} {t : Tg} {tt : DT} {we : DEx} {Γ : Gm} {fin : List PyData → Oh → Prop} {xs : List W} {acc : List PyData} {O : Oh} (I : List W → List PyData → Oh → Prop) (h : I xs acc O)
    (h0 : ∀ acc O, I [] acc O → ok O ∧ fin acc O)
    (h1 : ∀ x q acc O, I (x :: q) acc O → ok O ∧ ∀ (C : DK) (N : Oh → Prop), (∀ z O', acc.length < 1000000 → I q (acc ++ [z]) O' → C (.d z) O') → (∀ O', I q acc O' → N O') →
      t.put x Γ fun Γ1 => tt Γ1 O (kLcT we Γ1 C N) X0) : lcGo ok t tt we Γ fin xs acc O := by
  induction xs generalizing acc O with
  | nil => exact h0 _ _ h
  | cons x q ih =>
    obtain ⟨a, k⟩ := h1 _ _ _ _ h
    refine ⟨a, k _ _ (fun z O' hz i => ?_) (fun O' i => ih i)⟩
    exact ⟨hz, ih i⟩
def kWh (body : DSt) (D : DEnds) (f : Gm → Oh → Prop) (xe : DX) (Γ : Gm) : Bool → Oh → Prop := fun b O => if b = true then body D xe Γ O else f Γ O
instance {body : DSt} {D : DEnds} {f : Gm → Oh → Prop} {xe : DX} {Γ : Gm} {O : Oh} : Go (kWh body D f xe Γ true O) (body D xe Γ O) := ⟨fun h => by unfold kWh; rw [if_pos rfl]; exact h⟩
instance {body : DSt} {D : DEnds} {f : Gm → Oh → Prop} {xe : DX} {Γ : Gm} {O : Oh} : Go (kWh body D f xe Γ false O) (f Γ O) := ⟨fun h => by unfold kWh; rw [if_neg Bool.false_ne_true]; exact h⟩
/-! #### refusals -/
def kRaiseF (nm : Str) (fs : List Str) (xe : DX) (Γ : Gm) : List W → Oh → Prop := fun vs O1 => match datas vs with
  | some ds => ds.length = fs.length ∧ xe ⟨nm, (fs.zip ds).reverse⟩ Γ O1
  | none => False
instance {Γ : Gm} {O : Oh} {xe : DX} {D : DEnds} {nm : Str} {fs : List Str} {ws : DA} : Go (dRaiseF nm fs ws D xe Γ O) (ws Γ O (kRaiseF nm fs xe Γ) xe) := ⟨fun h => h⟩
instance {Γ : Gm} {O : Oh} {xe : DX} {D : DEnds} {nm : Str} : Go (dRaise0 nm D xe Γ O) (xe ⟨nm, []⟩ Γ O) := ⟨fun h => h⟩
def kTry (subs : List (Str × Bool)) (suite : DSt) (D : DEnds) (xe : DX) : DX := fun ex Γ' O' => match subs.lookup ex.cls with
  | some true => suite D X0 Γ' O'
  | some false => xe ex Γ' O'
  | none => False
instance {Γ : Gm} {O : Oh} {xe : DX} {D : DEnds} {subs : List (Str × Bool)} {body suite : DSt} : Go (dTry subs body suite D xe Γ O) (body D (kTry subs suite D xe) Γ O) := ⟨fun h => h⟩
def kTryAs (subs : List (Str × Bool)) (i : Nat) (suite : Addr → Option Addr → DSt) (D : DEnds) (xe : DX) : DX := fun ex Γ' O' => match subs.lookup ex.cls with
  | some true => ∀ a d, suite a d { D with nx := fun Γ1 O1 => D.nx (Γ1.set i none) O1, bk := fun Γ1 O1 => D.bk (Γ1.set i none) O1, ct := fun Γ1 O1 => D.ct (Γ1.set i none) O1 } X0 (Γ'.set i (some (.o a d ex.fs))) O'
  | some false => xe ex Γ' O'
  | none => False
instance {Γ : Gm} {O : Oh} {xe : DX} {D : DEnds} {subs : List (Str × Bool)} {i : Nat} {body : DSt} {suite : Addr → Option Addr → DSt} : Go (dTryAs subs i body suite D xe Γ O) (body D (kTryAs subs i suite D xe) Γ O) := ⟨fun h => h⟩
def kXf (a : Addr) (d : Option Addr) (f : Str) (R : DK) : DK := fun x O1 => match x with
  | .o b d' fs => b = a ∧ d' = d ∧ (match fs.lookup f with
    | some y => R (.d y) O1
    | none => False)
  | _ => False
instance {R : DK} {Γ : Gm} {O : Oh} {xe : DX} {a : Addr} {d : Option Addr} {f : Str} {w : DEx} : Go (dXf a d f w Γ O R xe) (w Γ O (kXf a d f R) xe) := ⟨fun h => h⟩
def kSet3 (o v : W) (f : Gm → Oh → Prop) (Γ : Gm) : DK := fun i O => dPutIx o i v O fun O4 => f Γ O4
def kSet2 (wi : DEx) (v : W) (f : Gm → Oh → Prop) (Γ : Gm) (xe : DX) : DK := fun o O => wi Γ O (kSet3 o v f Γ) xe
def kSet1 (wo wi : DEx) (f : Gm → Oh → Prop) (Γ : Gm) (xe : DX) : DK := fun v O => wo Γ O (kSet2 wi v f Γ xe) xe
instance {f b c : Gm → Oh → Prop} {r : DK} {Γ : Gm} {O : Oh} {xe : DX} {wo wi we : DEx} : Go (dSetI wo wi we ⟨f, r, b, c⟩ xe Γ O) (we Γ O (kSet1 wo wi f Γ xe) xe) := ⟨fun h => h⟩
instance {f : Gm → Oh → Prop} {Γ : Gm} {O : Oh} {xe : DX} {wo wi : DEx} {v : W} : Go (kSet1 wo wi f Γ xe v O) (wo Γ O (kSet2 wi v f Γ xe) xe) := ⟨fun h => h⟩
instance {f : Gm → Oh → Prop} {Γ : Gm} {O : Oh} {xe : DX} {wi : DEx} {v o : W} : Go (kSet2 wi v f Γ xe o O) (wi Γ O (kSet3 o v f Γ) xe) := ⟨fun h => h⟩
instance {f : Gm → Oh → Prop} {Γ : Gm} {O : Oh} {o v i : W} : Go (kSet3 o v f Γ i O) (dPutIx o i v O fun O4 => f Γ O4) := ⟨fun h => h⟩
theorem putix_lst {O : Oh} {j m : Nat} {n : Int} {ws : List W} {v : W} {k : Oh → Prop} [g : Cl O j (.lst ws)] (hi : ixN ws.length n = some m) (h : k (O.set j (.lst (ws.set m v)))) : dPutIx (.c j) (.d (.int n)) v O k := by
  unfold dPutIx; dsimp only; rw [g.e]; dsimp only; rw [hi]; exact h
/-! #### in -/
theorem in_of {neg : Bool} {x y : W} {d e : PyData} {ds : List PyData} {O : Oh} {R : DK} (n : NoDi y O) (hs : ∀ s, y ≠ .d (.str s)) (hx : asD x O = some d) (hy : asD y O = some e) (he : seqD e = some ds) (s1 : shp 40 d = true) (s2 : shp 40 e = true)
    (h : R (.d (.bool (if neg then !(ds.any fun z => PyData.eqv z d) else ds.any fun z => PyData.eqv z d))) O) : dIn2 neg x y O R := by
  unfold dIn2
  rw [if_neg (by rw [n.e]; exact Bool.false_ne_true)]
  split
  · next s => exact (hs _ rfl).elim
  · rw [hx, hy]; dsimp only; rw [he]; exact ⟨s1, s2, h⟩
end Dl
namespace Dl
open PySem PySem.Spec PyProof.Rows L2
def w_is_whole : DFn := dDef 1 1 (
  (dRet (dAndV (dIsi "int" (dVar 0)) (dNotV (dIsi "bool" (dVar 0))))))
def w__law_pot : DFn := dDefC 3 2 (
  (dSeq (dAsg (dC (.int 0)) (.nm 2))
  (dSeq (dIf (dB (dOp dLt2 (dVar 1) (dCB dLen (dCons (dVar 0) dNil))))
   (dAsg (dOp dIx2 (dVar 0) (dVar 1)) (.nm 2))
   dNext)
  (dRet (dLstC (dCons (dCB dMax (dCons (dC (.int 0)) (dCons (dOp dSub (dCB dAbs (dCons (dVar 2) dNil)) (dOp dPow (dC (.int 10)) (dC (.int 18)))) dNil))) (dCons (dOp dAdd (dOp dAdd (dOp dMod (dCB dAbs (dCons (dVar 2) dNil)) (dC (.int 2147483587))) (dOp dMul (dC (.int 101)) (dVar 1))) (dC (.int 3))) dNil)))))))
def w__law_digit : DFn := dDef 3 2 (
  (dSeq (dIf (dB (dOp dGt2 (dOp dIx2 (dVar 0) (dC (.int 0))) (dC (.int 0))))
   (dSeq (dAsg (dOp dMod (dOp dIx2 (dVar 0) (dC (.int 0))) (dVar 1)) (.nm 2))
   (dSeq (dSetI (dVar 0) (dC (.int 0)) (dOp dDiv (dOp dIx2 (dVar 0) (dC (.int 0))) (dVar 1)))
   (dRet (dVar 2))))
   dNext)
  (dSeq (dSetI (dVar 0) (dC (.int 1)) (dOp dMod (dOp dAdd (dOp dMul (dOp dIx2 (dVar 0) (dC (.int 1))) (dC (.int 39373))) (dC (.int 20011))) (dC (.int 2147483647))))
  (dRet (dOp dMod (dOp dDiv (dOp dMod (dOp dMul (dOp dIx2 (dVar 0) (dC (.int 1))) (dOp dIx2 (dVar 0) (dC (.int 1)))) (dC (.int 2147483563))) (dC (.int 11))) (dVar 1))))))
def w__law_names : DFn := dDef 10 2 (
  (dSeq (dAsg (dC (.str "abcdefghijklmnopqrstuvwxyz")) (.nm 2))
  (dSeq (dAsg (dLstC dNil) (.nm 3))
  (dSeq (dFor (dRng1 (dCons (dVar 1) dNil)) (.nm 4)
   (dSeq (dAsg (dOp dAdd (dC (.int 1)) (dCall0 w__law_digit (dCons (dVar 0) (dCons (dOp dIx2 (dLst (dCons (dC (.int 1)) (dCons (dC (.int 2)) (dCons (dC (.int 8)) dNil)))) (dCall0 w__law_digit (dCons (dVar 0) (dCons (dC (.int 3)) dNil)))) dNil)))) (.nm 5))
   (dSeq (dAsg (dJoin (dC (.str "")) (dLc (dRng1 (dCons (dVar 5) dNil)) (.nm 8) dYes (dOp dIx2 (dVar 2) (dCall0 w__law_digit (dCons (dVar 0) (dCons (dC (.int 26)) dNil)))) [8])) (.nm 6))
   (dSeq (dIf (dB (dOp (dIn2 false) (dVar 6) (dVar 3)))
    (dSeq (dAsg (dLc (dRng1 (dCons (dOp dAdd (dVar 1) (dC (.int 1))) dNil)) (.nm 8) dYes (dOp dAdd (dOp dAdd (dSlice (dVar 6) dO0 (dO1 (dC (.int 6)))) (dOp dIx2 (dVar 2) (dVar 8))) (dC (.str "q"))) [8]) (.nm 7))
    (dAsg (dOp dIx2 (dLc (dSeqI (dVar 7)) (.nm 9) (dB (dOp (dIn2 true) (dVar 9) (dVar 3))) (dVar 9) [9]) (dC (.int 0))) (.nm 6)))
    dNext)
   (dDrop (dBM isLstW dAppend (dVar 3) (dCons (dVar 6) dNil)))))))
  (dRet (dVar 3))))))
end Dl
/-! ### rows of texts -/
namespace Dl
open PySem PySem.Spec PyProof.Rows L2
abbrev sD (xs : List Str) : List PyData := xs.map PyData.str
abbrev tS (xs : List Str) : PyData := .tuple (sD xs)
abbrev lS (xs : List Str) : PyData := .list (sD xs)
theorem eqvAll_map {α : Type} [DecidableEq α] {en : α → PyData} (h : ∀ a b, PyData.eqv (en a) (en b) = decide (a = b)) (xs ys : List α) : PyData.eqvAll (xs.map en) (ys.map en) = decide (xs = ys) := by
  induction xs generalizing ys with
  | nil => cases ys <;> simp [PyData.eqvAll]
  | cons x r ih =>
    cases ys with
    | nil => simp [PyData.eqvAll]
    | cons y t =>
      simp only [List.map_cons, PyData.eqvAll, h, ih]
      by_cases a : x = y <;> by_cases b : r = t <;> simp [a, b]
theorem eqv_lmap {α : Type} [DecidableEq α] {en : α → PyData} (h : ∀ a b, PyData.eqv (en a) (en b) = decide (a = b)) (xs ys : List α) : PyData.eqv (.list (xs.map en)) (.list (ys.map en)) = decide (xs = ys) := by
  rw [← eqvAll_map h]; simp only [PyData.eqv]
theorem eqv_lS (xs ys : List Str) : PyData.eqv (lS xs) (lS ys) = decide (xs = ys) := eqv_lmap eqv_str xs ys
theorem shp_sD (n : Nat) (xs : List Str) : (sD xs).all (shp n) = true := by
  rw [List.all_eq_true]
  intro d hd
  obtain ⟨s, _, rfl⟩ := List.mem_map.mp hd
  cases n <;> rfl
theorem shp_lS (n : Nat) (xs : List Str) : shp (n + 1) (lS xs) = true := shp_sD n xs
theorem shp_tS (n : Nat) (xs : List Str) : shp (n + 1) (tS xs) = true := shp_sD n xs
theorem any_sD (xs : List Str) (s : Str) : ((sD xs).any fun z => PyData.eqv z (.str s)) = decide (s ∈ xs) := by
  rw [List.any_map]
  induction xs with
  | nil => simp
  | cons x r ih =>
    rw [List.any_cons, ih]
    simp only [Function.comp, eqv_str]
    by_cases a : x = s
    · subst a; simp
    · have : ¬ s = x := fun h => a h.symm
      simp [a, this]
theorem datas_sD (xs : List Str) : datas ((sD xs).map W.d) = some (sD xs) := datas_map _
/-- a list of texts, kept or not; a list or a tuple of texts -/
class LstS (x : W) (O : Oh) (xs : outParam (List Str)) : Prop where
  e : asD x O = some (lS xs)
instance {O : Oh} {xs : List Str} : LstS (.d (.list (xs.map PyData.str))) O xs := ⟨rfl⟩
instance (priority := high) {O : Oh} : LstS (.d (.list [])) O [] := ⟨rfl⟩
theorem asD_cell {O : Oh} {j : Nat} {ws : List W} {ds : List PyData} (h : O[j]? = some (.lst ws)) (d : datas ws = some ds) : asD (.c j) O = some (.list ds) := by
  unfold asD; dsimp only; rw [h]; dsimp only; rw [d]
instance {O : Oh} {j : Nat} {xs : List Str} [g : Cl O j (.lst ((xs.map PyData.str).map W.d))] : LstS (.c j) O xs := ⟨asD_cell g.e (datas_sD xs)⟩
instance (priority := high) {O : Oh} {j : Nat} [g : Cl O j (.lst [])] : LstS (.c j) O [] := ⟨asD_cell g.e rfl⟩
class SeqS (x : W) (O : Oh) (xs : outParam (List Str)) : Prop where
  nd : isDictW x O = false
  ns : ∀ s, x ≠ .d (.str s)
  e : ∃ d, asD x O = some d ∧ seqD d = some (sD xs) ∧ shp 40 d = true
instance {O : Oh} {xs : List Str} : SeqS (.d (.list (xs.map PyData.str))) O xs := ⟨rfl, (fun s h => by cases h), _, rfl, rfl, shp_lS 39 xs⟩
instance {O : Oh} {xs : List Str} : SeqS (.d (.tuple (xs.map PyData.str))) O xs := ⟨rfl, (fun s h => by cases h), _, rfl, rfl, shp_tS 39 xs⟩
instance {O : Oh} {j : Nat} {xs : List Str} [g : Cl O j (.lst ((xs.map PyData.str).map W.d))] : SeqS (.c j) O xs := ⟨(inferInstance : NoDi (.c j) O).e, (fun s h => by cases h), _, asD_cell g.e (datas_sD xs), rfl, shp_lS 39 xs⟩
theorem asD_app {x : W} {O L : Oh} {d : PyData} (h : asD x O = some d) : asD x (O ++ L) = some d := by
  cases x with
  | c j =>
    unfold asD at h ⊢
    dsimp only at h ⊢
    split at h
    · next ws e =>
      rw [List.getElem?_append_left (List.getElem?_eq_some_iff.mp e).1, e]
      exact h
    · cases h
  | _ => exact h
theorem isDict_app {x : W} {O L : Oh} {d : PyData} (h : asD x O = some d) (e : isDictW x O = false) : isDictW x (O ++ L) = false := by
  cases x with
  | c j =>
    unfold asD at h
    dsimp only at h
    split at h
    · next ws e =>
      unfold isDictW asDk asDt
      dsimp only
      rw [List.getElem?_append_left (List.getElem?_eq_some_iff.mp e).1, e]
      rfl
    · cases h
  | d y => cases y <;> exact e
  | _ => exact e
instance (priority := low) {x : W} {O L : Oh} {xs : List Str} [q : SeqS x O xs] : SeqS x (O ++ L) xs := by
  obtain ⟨d, h1, h2, h3⟩ := q.e
  exact ⟨isDict_app h1 q.nd, q.ns, d, asD_app h1, h2, h3⟩
instance (priority := low) {x : W} {O L : Oh} {xs : List Str} [q : LstS x O xs] : LstS x (O ++ L) xs := ⟨asD_app q.e⟩
theorem go_inS {neg : Bool} {s : Str} {y : W} {xs : List Str} {O : Oh} {R : DK} [q : SeqS y O xs] (h : R (.d (.bool (if neg then !decide (s ∈ xs) else decide (s ∈ xs)))) O) : dIn2 neg (.d (.str s)) y O R := by
  obtain ⟨d, h1, h2, h3⟩ := q.e
  refine in_of ⟨q.nd⟩ q.ns rfl h1 h2 rfl h3 ?_
  rw [any_sD]
  exact h
instance {s : Str} {y : W} {xs : List Str} {O : Oh} {R : DK} [q : SeqS y O xs] : Go (dIn2 false (.d (.str s)) y O R) (R (.d (.bool (decide (s ∈ xs)))) O) := ⟨fun h => go_inS h⟩
instance {s : Str} {y : W} {xs : List Str} {O : Oh} {R : DK} [q : SeqS y O xs] : Go (dIn2 true (.d (.str s)) y O R) (R (.d (.bool (decide (s ∉ xs)))) O) := ⟨fun h => go_inS (by rw [if_pos rfl, ← decide_not]; exact h)⟩
theorem go_eqS {x y : W} {xs ys : List Str} {O : Oh} {R : DK} [a : LstS x O xs] [b : LstS y O ys] (h : R (.d (.bool (decide (xs = ys)))) O) : dEq x y O R := by
  unfold dEq; rw [a.e, b.e]; dsimp only; rw [eqv_lS]; exact ⟨shp_lS 39 _, shp_lS 39 _, h⟩
theorem go_neS {x y : W} {xs ys : List Str} {O : Oh} {R : DK} [a : LstS x O xs] [b : LstS y O ys] (h : R (.d (.bool (!decide (xs = ys)))) O) : dNe x y O R := by
  unfold dNe; rw [a.e, b.e]; dsimp only; rw [eqv_lS]; exact ⟨shp_lS 39 _, shp_lS 39 _, h⟩
instance {x y : W} {xs ys : List Str} {O : Oh} {R : DK} [a : LstS x O xs] [b : LstS y O ys] : Go (dEq x y O R) (R (.d (.bool (decide (xs = ys)))) O) := ⟨go_eqS⟩
instance {x y : W} {xs ys : List Str} {O : Oh} {R : DK} [a : LstS x O xs] [b : LstS y O ys] : Go (dNe x y O R) (R (.d (.bool (decide (xs ≠ ys)))) O) := ⟨fun h => go_neS (by rw [← decide_not]; exact h)⟩
/-! #### slices -/
theorem cut_drop {α : Type} (xs : List α) (j : Nat) : cutL xs (some (j : Nat)) none = xs.drop j := by
  unfold cutL
  rw [HT.sIx_none, HT.sIx_nat]
  by_cases h : j ≤ xs.length
  · rw [Nat.min_eq_left h, List.take_of_length_le (by rw [List.length_drop]; exact Nat.le_refl _)]
  · rw [Nat.min_eq_right (by omega), Nat.sub_self, List.take_zero, List.drop_eq_nil_of_le (by omega)]
/-! #### places -/
class Ix (ds : List PyData) (i : Int) (d : outParam PyData) : Prop where
  e : atI (ds.map W.d) i = some (.d d)
theorem atI_map {ds : List PyData} {m : Nat} {d : PyData} (h : ds[m]? = some d) : atI (ds.map W.d) (m : Nat) = some (.d d) := atI_nat (by rw [List.getElem?_map, h]; rfl)
instance {a : PyData} {l : List PyData} : Ix (a :: l) 0 a := ⟨atI_map (m := 0) rfl⟩
instance {a b : PyData} {l : List PyData} : Ix (a :: b :: l) 1 b := ⟨atI_map (m := 1) rfl⟩
instance {a b c : PyData} {l : List PyData} : Ix (a :: b :: c :: l) 2 c := ⟨atI_map (m := 2) rfl⟩
instance {α : Type} {en : α → PyData} {a : α} {l : List α} : Ix ((a :: l).map en) 0 (en a) := ⟨atI_map (m := 0) rfl⟩
class Fz (x : W) (O : Oh) (ds : outParam (List PyData)) : Prop where
  nd : isDictW x O = false
  e : asS x O = some (ds.map W.d)
instance {O : Oh} {ds : List PyData} : Fz (.d (.list ds)) O ds := ⟨rfl, rfl⟩
instance {O : Oh} {ds : List PyData} : Fz (.d (.tuple ds)) O ds := ⟨rfl, rfl⟩
instance {O : Oh} {ds : List PyData} : Fz (.p ds) O ds := ⟨rfl, rfl⟩
instance {O : Oh} {j : Nat} {ds : List PyData} [g : Cl O j (.lst (ds.map W.d))] : Fz (.c j) O ds := ⟨(inferInstance : NoDi (.c j) O).e, by unfold asS; dsimp only; rw [g.e]⟩
theorem go_ix {x : W} {O : Oh} {ds : List PyData} {i : Int} {d : PyData} {R : DK} [f : Fz x O ds] (hi : atI (ds.map W.d) i = some (.d d)) (h : R (.d d) O) : dIx2 x (.d (.int i)) O R := by
  haveI : NoDi x O := ⟨f.nd⟩
  haveI : AsS x O (ds.map W.d) := ⟨f.e⟩
  exact ix2_of hi h
instance {x : W} {O : Oh} {ds : List PyData} {i : Int} {d : PyData} {R : DK} [f : Fz x O ds] [g : Ix ds i d] : Go (dIx2 x (.d (.int i)) O R) (R (.d d) O) := ⟨go_ix g.e⟩
/-! #### walks along what is written as a list -/
theorem for_map {α : Type} (en : α → W) {f b c : Gm → Oh → Prop} {r : DK} {t : Tg} {body : DSt} {xe : DX} {xs : List α} {Γ : Gm} {O : Oh} (I : List α → Gm → Oh → Prop) (h : I xs Γ O)
    (h0 : ∀ Γ O, I [] Γ O → f Γ O)
    (h1 : ∀ x q Γ O, I (x :: q) Γ O → ∀ C : Gm → Oh → Prop, (∀ Γ' O', I q Γ' O' → C Γ' O') → t.put (en x) Γ fun Γ1 => body ⟨C, r, f, C⟩ xe Γ1 O) : forGo (fun _ => True) t body ⟨f, r, b, c⟩ xe (xs.map en) Γ O := by
  refine for_rule (fun q Γ O => ∃ ys, q = ys.map en ∧ I ys Γ O) ⟨xs, rfl, h⟩ ?_ ?_
  · rintro Γ O ⟨ys, e, i⟩
    cases ys with
    | nil => exact ⟨trivial, h0 _ _ i⟩
    | cons y ys => cases e
  · rintro x q Γ O ⟨ys, e, i⟩
    cases ys with
    | nil => cases e
    | cons y ys =>
      rw [List.map_cons] at e
      injection e with e1 e2
      subst e1 e2
      exact ⟨trivial, fun C hC => h1 _ _ _ _ i C fun Γ' O' i' => hC _ _ ⟨ys, rfl, i'⟩⟩
theorem for_mapD {α : Type} (en : α → PyData) {f b c : Gm → Oh → Prop} {r : DK} {t : Tg} {body : DSt} {xe : DX} {xs : List α} {Γ : Gm} {O : Oh} (I : List α → Gm → Oh → Prop) (h : I xs Γ O)
    (h0 : ∀ Γ O, I [] Γ O → f Γ O)
    (h1 : ∀ x q Γ O, I (x :: q) Γ O → ∀ C : Gm → Oh → Prop, (∀ Γ' O', I q Γ' O' → C Γ' O') → t.put (.d (en x)) Γ fun Γ1 => body ⟨C, r, f, C⟩ xe Γ1 O) : forGo (fun _ => True) t body ⟨f, r, b, c⟩ xe ((xs.map en).map W.d) Γ O := by
  rw [List.map_map]
  exact for_map (W.d ∘ en) I h h0 h1
/-- range(..) -/
theorem for_rng {f b c : Gm → Oh → Prop} {r : DK} {t : Tg} {body : DSt} {xe : DX} {n : Nat} {Γ : Gm} {O : Oh} (I : Nat → Gm → Oh → Prop) (h : I 0 Γ O)
    (h0 : ∀ Γ O, I n Γ O → f Γ O)
    (h1 : ∀ k Γ O, k < n → I k Γ O → ∀ C : Gm → Oh → Prop, (∀ Γ' O', I (k + 1) Γ' O' → C Γ' O') → t.put (.d (.int (k : Nat))) Γ fun Γ1 => body ⟨C, r, f, C⟩ xe Γ1 O) : forGo (fun _ => True) t body ⟨f, r, b, c⟩ xe (rgW 0 n) Γ O := by
  refine for_rule (fun q Γ O => ∃ k m : Nat, k + m = n ∧ q = rgW (k : Nat) m ∧ I k Γ O) ⟨0, n, by omega, rfl, h⟩ ?_ ?_
  · rintro Γ O ⟨k, m, hk, e, i⟩
    cases m with
    | zero => have : k = n := by omega
              subst this; exact ⟨trivial, h0 _ _ i⟩
    | succ m => cases e
  · rintro x q Γ O ⟨k, m, hk, e, i⟩
    cases m with
    | zero => cases e
    | succ m =>
      injection e with e1 e2
      subst e1 e2
      exact ⟨trivial, fun C hC => h1 _ _ _ (by omega) i C fun Γ' O' i' => hC _ _ ⟨k + 1, m, by omega, by simp, i'⟩⟩
/-- a list made of each element by itself -/
theorem lc_map {α : Type} (en : α → W) {i : Nat} {tt : DT} {we : DEx} {Γ : Gm} {fin : List PyData → Oh → Prop} {xs : List α} {O : Oh} {ok : Oh → Prop} (p : α → Bool) (g : α → PyData) (hok : ok O) (hz : xs.length ≤ 1000000)
    (h1 : ∀ x ∈ xs, ∀ C, C (p x) O → (Tg.nm i).put (en x) Γ fun Γ' => tt Γ' O C X0) (h2 : ∀ x ∈ xs, p x = true → ∀ C : DK, C (.d (g x)) O → (Tg.nm i).put (en x) Γ fun Γ' => we Γ' O C X0)
    (h : fin ((xs.filter p).map g) O) : lcGo ok (.nm i) tt we Γ fin (xs.map en) [] O := by
  refine lc_rule (fun q acc O' => ∃ ys : List α, q = ys.map en ∧ O' = O ∧ (∀ x ∈ ys, x ∈ xs) ∧ acc.length + ys.length ≤ 1000000 ∧ acc ++ (ys.filter p).map g = (xs.filter p).map g) ⟨xs, rfl, rfl, fun _ h => h, by simpa using hz, rfl⟩ ?_ ?_
  · rintro acc O' ⟨ys, e0, rfl, _, _, e⟩
    cases ys with
    | cons y ys => cases e0
    | nil =>
      simp only [List.filter_nil, List.map_nil, List.append_nil] at e
      subst e
      exact ⟨hok, h⟩
  · rintro x q acc O' ⟨ys, e0, rfl, hm, hl, e⟩
    cases ys with
    | nil => cases e0
    | cons y ys =>
      rw [List.map_cons] at e0
      injection e0 with e1 e2
      subst e1 e2
      refine ⟨hok, fun C N hC hN => ?_⟩
      unfold Tg.put
      refine h1 y (hm y List.mem_cons_self) _ ?_
      unfold kLcT
      rw [List.length_cons] at hl
      by_cases z : p y = true
      · rw [if_pos z]
        refine h2 y (hm y List.mem_cons_self) z _ (hC _ _ (by omega) ⟨ys, rfl, rfl, fun w hw => hm w (List.mem_cons_of_mem _ hw), by simp; omega, ?_⟩)
        rw [List.filter_cons_of_pos z, List.map_cons] at e
        rw [← e]; simp
      · rw [if_neg z]
        rw [List.filter_cons_of_neg z] at e
        exact hN _ ⟨ys, rfl, rfl, fun w hw => hm w (List.mem_cons_of_mem _ hw), by omega, e⟩
theorem lc_mapD {α : Type} (en : α → PyData) {i : Nat} {tt : DT} {we : DEx} {Γ : Gm} {fin : List PyData → Oh → Prop} {xs : List α} {O : Oh} {ok : Oh → Prop} (p : α → Bool) (g : α → PyData) (hok : ok O) (hz : xs.length ≤ 1000000)
    (h1 : ∀ x ∈ xs, ∀ C, C (p x) O → (Tg.nm i).put (.d (en x)) Γ fun Γ' => tt Γ' O C X0) (h2 : ∀ x ∈ xs, p x = true → ∀ C : DK, C (.d (g x)) O → (Tg.nm i).put (.d (en x)) Γ fun Γ' => we Γ' O C X0)
    (h : fin ((xs.filter p).map g) O) : lcGo ok (.nm i) tt we Γ fin ((xs.map en).map W.d) [] O := by
  rw [List.map_map]
  exact lc_map (W.d ∘ en) p g hok hz h1 h2 h
/-- .. each element kept -/
theorem lc_all {α : Type} (en : α → PyData) {i : Nat} {we : DEx} {Γ : Gm} {fin : List PyData → Oh → Prop} {xs : List α} {O : Oh} {ok : Oh → Prop} (g : α → PyData) (hok : ok O) (hz : xs.length ≤ 1000000)
    (h2 : ∀ x ∈ xs, ∀ C : DK, C (.d (g x)) O → (Tg.nm i).put (.d (en x)) Γ fun Γ' => we Γ' O C X0)
    (h : fin (xs.map g) O) : lcGo ok (.nm i) dYes we Γ fin ((xs.map en).map W.d) [] O :=
  lc_mapD en (fun _ => true) g hok hz (fun x _ C hC => by unfold Tg.put; exact hC) (fun x hx _ => h2 x hx) (by rw [List.filter_eq_self.mpr (fun _ _ => rfl)]; exact h)
/-- .. with a store that changes: along range(..) -/
theorem lc_rng {t : Tg} {tt : DT} {we : DEx} {Γ : Gm} {fin : List PyData → Oh → Prop} {n : Nat} {O : Oh} (I : Nat → List PyData → Oh → Prop) (h : I 0 [] O)
    (h0 : ∀ acc O, I n acc O → fin acc O)
    (h1 : ∀ k acc O, k < n → I k acc O → ∀ (C : DK) (N : Oh → Prop), (∀ z O', acc.length < 1000000 → I (k + 1) (acc ++ [z]) O' → C (.d z) O') → (∀ O', I (k + 1) acc O' → N O') →
      t.put (.d (.int (k : Nat))) Γ fun Γ1 => tt Γ1 O (kLcT we Γ1 C N) X0) : lcGo (fun _ => True) t tt we Γ fin (rgW 0 n) [] O := by
  refine lc_rule (fun q acc O => ∃ k m : Nat, k + m = n ∧ q = rgW (k : Nat) m ∧ I k acc O) ⟨0, n, by omega, rfl, h⟩ ?_ ?_
  · rintro acc O ⟨k, m, hk, e, i⟩
    cases m with
    | zero => have : k = n := by omega
              subst this; exact ⟨trivial, h0 _ _ i⟩
    | succ m => cases e
  · rintro x q acc O ⟨k, m, hk, e, i⟩
    cases m with
    | zero => cases e
    | succ m =>
      injection e with e1 e2
      subst e1 e2
      exact ⟨trivial, fun C N hC hN => h1 _ _ _ (by omega) i C N (fun z O' hz i' => hC _ _ hz ⟨k + 1, m, by omega, by simp, i'⟩) (fun O' i' => hN _ ⟨k + 1, m, by omega, by simp, i'⟩)⟩
theorem rgW_map : ∀ (m n : Nat), rgW (m : Nat) n = ((List.range' m n).map fun k => PyData.int (k : Nat)).map W.d
  | _, 0 => rfl
  | m, n + 1 => by
    show W.d (.int (m : Nat)) :: rgW ((m : Int) + 1) n = _
    rw [show ((m : Int) + 1) = ((m + 1 : Nat) : Int) by simp, rgW_map (m + 1) n]
    rfl
theorem rgW_range (n : Nat) : rgW 0 n = ((List.range n).map fun k => PyData.int (k : Nat)).map W.d := by
  rw [List.range_eq_range']; exact rgW_map 0 n
end Dl
namespace Dl
open PySem PySem.Spec PyProof.Rows L2
/-! ### dicts by texts -/
def OkS (s : Str) : Prop := PyData.strOk s = true ∧ s.length ≤ 12
def kvM (f : Str → W) (σ : List Str) : List (Key × W) := σ.map fun s => (.inr s, f s)
theorem valW_kvM (f : Str → W) (s : Str) : ∀ σ : List Str, valW (kvM f σ) (.inr s) = if s ∈ σ then some (f s) else none
  | [] => rfl
  | x :: r => by
    unfold valW kvM
    rw [List.map_cons]
    by_cases z : x = s
    · subst z
      rw [List.find?_cons_of_pos (by simp)]
      simp
    · rw [List.find?_cons_of_neg (by simpa using z)]
      have ih := valW_kvM f s r
      unfold valW kvM at ih
      rw [ih]
      have : (s ∈ x :: r) = (s ∈ r) := by
        rw [List.mem_cons]
        exact propext ⟨fun h => h.elim (fun e => absurd e.symm z) id, .inr⟩
      simp only [this]
/-- a dict by texts: a cell, or one that never changes -/
class KvM (x : W) (O : Oh) (f : outParam (Str → W)) (σ : outParam (List Str)) : Prop where
  e : asDk x O = some (kvM f σ)
instance {O : Oh} {j : Nat} {f : Str → W} {σ : List Str} [g : Cl O j (.dic (kvM f σ))] : KvM (.c j) O f σ := ⟨(inferInstance : IsDk (.c j) O (kvM f σ)).e⟩
abbrev kvD (f : Str → PyData) (σ : List Str) : List (PyData × PyData) := σ.map fun s => (PyData.str s, f s)
theorem keysD_kvD (f : Str → PyData) : ∀ σ : List Str, keysD (kvD f σ) = some (kvM (fun s => .d (f s)) σ)
  | [] => rfl
  | s :: r => by
    show (match keysD (kvD f r) with | some kvs => some (((Sum.inr s : Key), W.d (f s)) :: kvs) | none => none) = _
    rw [keysD_kvD f r]; rfl
instance {O : Oh} {f : Str → PyData} {σ : List Str} : KvM (.d (.dict (σ.map fun s => (PyData.str s, f s)))) O (fun s => .d (f s)) σ := ⟨keysD_kvD f σ⟩
theorem go_inK {neg : Bool} {x : W} {s : Str} {O : Oh} {R : DK} {f : Str → W} {σ : List Str} [g : KvM x O f σ] (h : R (.d (.bool (if neg then decide (s ∉ σ) else decide (s ∈ σ)))) O) : dIn2 neg (.d (.str s)) x O R := by
  have e := g.e
  unfold dIn2
  rw [if_pos (by unfold isDictW; rw [e]; rfl)]
  unfold dGet
  rw [e]
  show R (.d (.bool (if neg then !(valW (kvM f σ) (.inr s)).isSome else (valW (kvM f σ) (.inr s)).isSome))) O
  rw [valW_kvM]
  by_cases z : s ∈ σ
  · rw [if_pos z]; cases neg <;> simpa [z] using h
  · rw [if_neg z]; cases neg <;> simpa [z] using h
instance {x : W} {s : Str} {O : Oh} {R : DK} {f : Str → W} {σ : List Str} [g : KvM x O f σ] : Go (dIn2 false (.d (.str s)) x O R) (R (.d (.bool (decide (s ∈ σ)))) O) := ⟨fun h => go_inK h⟩
instance {x : W} {s : Str} {O : Oh} {R : DK} {f : Str → W} {σ : List Str} [g : KvM x O f σ] : Go (dIn2 true (.d (.str s)) x O R) (R (.d (.bool (decide (s ∉ σ)))) O) := ⟨fun h => go_inK (by rw [if_pos rfl]; exact h)⟩
/-! ### walks where something has to stay -/
end Dl
namespace Dl
open PySem PySem.Spec PyProof.Rows L2
/-! ### rows as data -/
/-- few rows, of few unlike names -/
structure GoodR (rs : List (List Str)) : Prop where
  few : rs.length ≤ 6
  row : ∀ r ∈ rs, r.Nodup ∧ r.length ≤ 8 ∧ ∀ s ∈ r, OkS s
def namesOf (rs : List (List Str)) : List Str := met rs.flatten
theorem GoodR.flat {rs : List (List Str)} (g : GoodR rs) : rs.flatten.length ≤ 48 := by
  have : ∀ rs : List (List Str), (∀ r ∈ rs, r.length ≤ 8) → rs.flatten.length ≤ 8 * rs.length := by
    intro rs
    induction rs with
    | nil => intro _; simp
    | cons r q ih =>
      intro h
      rw [List.flatten_cons, List.length_append, List.length_cons]
      have := ih fun x hx => h x (List.mem_cons_of_mem _ hx)
      have := h r List.mem_cons_self
      omega
  have h1 := this rs fun r hr => (g.row r hr).2.1
  have := g.few
  omega
theorem met_len (xs : List Str) : (met xs).length ≤ xs.length := by have := met_le_aux xs []; simpa [met] using this
theorem met_strs {xs : List Str} {s : Str} : s ∈ met xs → s ∈ xs := by
  have : ∀ (ys σ : List Str), s ∈ ys.foldl addMet σ → s ∈ σ ∨ s ∈ ys := by
    intro ys
    induction ys with
    | nil => intro σ h; exact .inl h
    | cons y r ih =>
      intro σ h
      rcases ih _ h with h | h
      · unfold addMet at h
        split at h
        · exact .inl h
        · rcases List.mem_append.mp h with h | h
          · exact .inl h
          · rw [List.mem_singleton] at h; exact .inr (h ▸ List.mem_cons_self)
      · exact .inr (List.mem_cons_of_mem _ h)
  intro h
  rcases this _ _ h with h | h
  · cases h
  · exact h
/-! ### wishes -/
def ahead (left row : List Str) (a : Str) : List Str := (row.take (row.findIdx (· == a))).filter fun s => decide (s ∈ left)
abbrev Wish := Nat × Str × Str
def wishFrom (left : List Str) (a : Str) : Nat → List (List Str) → Option Wish
  | _, [] => none
  | k, row :: rs => if a ∈ row then (match ahead left row a with
    | b :: _ => some (k, b, a)
    | [] => wishFrom left a (k + 1) rs) else wishFrom left a (k + 1) rs
def wishOf (rs : List (List Str)) (left : List Str) (a : Str) : Option Wish := wishFrom left a 0 rs
theorem idx_some {xs : List Str} {a : Str} (h : a ∈ xs) : xs.findIdx? (· == a) = some (xs.findIdx (· == a)) := by
  rw [List.findIdx?_eq_some_iff_findIdx_eq]
  exact ⟨List.findIdx_lt_length_of_exists ⟨a, h, by simp⟩, rfl⟩
end Dl
namespace Dl
open PySem PySem.Spec PyProof.Rows L2
/-! ### each once -/
theorem addMet_nodup {σ : List Str} {v : Str} (h : σ.Nodup) : (addMet σ v).Nodup := by
  unfold addMet
  split
  · exact h
  · next c =>
    rw [List.nodup_append]
    refine ⟨h, by simp, fun a ha b hb => ?_⟩
    rw [List.mem_singleton] at hb
    subst hb
    intro e
    subst e
    exact c (List.any_eq_true.mpr ⟨a, ha, by simp⟩)
theorem met_nodup (xs : List Str) : (met xs).Nodup := by
  have : ∀ (ys σ : List Str), σ.Nodup → (ys.foldl addMet σ).Nodup := by
    intro ys
    induction ys with
    | nil => exact fun σ h => h
    | cons y r ih => exact fun σ h => ih _ (addMet_nodup h)
  exact this xs [] List.nodup_nil
theorem mem_met {xs : List Str} {s : Str} (h : s ∈ xs) : s ∈ met xs := by
  have key : ∀ (ys σ : List Str), (s ∈ σ ∨ s ∈ ys) → s ∈ ys.foldl addMet σ := by
    intro ys
    induction ys with
    | nil => intro σ h; exact h.elim id (fun h => by cases h)
    | cons y r ih =>
      intro σ h
      apply ih
      rcases h with h | h
      · left; unfold addMet; split
        · exact h
        · exact List.mem_append_left _ h
      · rcases List.mem_cons.mp h with rfl | h
        · left; unfold addMet; split
          · next c =>
            obtain ⟨y, hy, e⟩ := List.any_eq_true.mp c
            rw [← eq_of_beq e]; exact hy
          · simp
        · exact .inr h
  exact key xs [] (.inr h)
/-- unlike ones among some are no more than these -/
theorem nodup_sub_len {xs ys : List Str} (h : xs.Nodup) (s : ∀ x ∈ xs, x ∈ ys) : xs.length ≤ ys.length := by
  induction xs generalizing ys with
  | nil => simp
  | cons x r ih =>
    rw [List.nodup_cons] at h
    have hx := s x List.mem_cons_self
    have := ih (ys := ys.erase x) h.2 fun y hy => (List.mem_erase_of_ne (a := y) (b := x) (fun e => h.1 (by rw [← e]; exact hy))).mpr (s y (List.mem_cons_of_mem _ hy))
    rw [List.length_erase_of_mem hx] at this
    rw [List.length_cons]
    have := List.length_pos_of_mem hx
    omega
/-! ### rings -/
def lastOf (f : Str → Option Wish) (names : List Str) : Option Wish := names.getLast?.bind f
def ringRun (f : Str → Option Wish) : Nat → List Str → List Wish → List Str × List Wish
  | 0, names, wishes => (names, wishes)
  | n + 1, names, wishes => if names.Nodup then (match lastOf f names with
    | some w => ringRun f n (names ++ [w.2.1]) (wishes ++ [w])
    | none => (names, wishes)) else (names, wishes)
def ringOf (rs : List (List Str)) (left : List Str) : List Wish :=
  let r := ringRun (wishOf rs left) (left.length + 1) (left.take 1) []
  (r.2.drop ((r.1.findIdx? (· == r.1.getLast?.getD "")).getD 0)).reverse
/-- a wish that a row has -/
def Wished (rs : List (List Str)) (w : Wish) : Prop := ∃ row, rs[w.1]? = some row ∧ w.2.1 ∈ row ∧ w.2.2 ∈ row ∧ row.findIdx (· == w.2.1) < row.findIdx (· == w.2.2)
structure IsRing (rs : List (List Str)) (ring : List Wish) : Prop where
  two : 2 ≤ ring.length
  all : ∀ w ∈ ring, Wished rs w
  nd : (ring.map fun w => w.2.1).Nodup
  turn : ring.map (fun w => w.2.2) = (ring.map fun w => w.2.1).drop 1 ++ (ring.map fun w => w.2.1).take 1
theorem mem_ahead {left row : List Str} {a b : Str} (h : b ∈ ahead left row a) : b ∈ left ∧ b ∈ row ∧ row.findIdx (· == b) < row.findIdx (· == a) := by
  unfold ahead at h
  obtain ⟨h1, h2⟩ := List.mem_filter.mp h
  refine ⟨of_decide_eq_true h2, List.mem_of_mem_take h1, ?_⟩
  obtain ⟨i, hi, e⟩ := List.getElem_of_mem h1
  rw [List.length_take] at hi
  rw [List.getElem_take] at e
  have : row.findIdx (· == b) ≤ i := by
    apply Nat.le_of_not_lt
    intro hlt
    have := List.not_of_lt_findIdx hlt
    rw [e] at this
    simp at this
  omega
theorem wishFrom_ok {left : List Str} {a : Str} {w : Wish} : ∀ {k : Nat} {q : List (List Str)}, wishFrom left a k q = some w → ∃ i row, w.1 = k + i ∧ q[i]? = some row ∧ w.2.2 = a ∧ a ∈ row ∧ w.2.1 ∈ ahead left row a
  | _, [], h => by cases h
  | k, row :: q, h => by
    unfold wishFrom at h
    have next : wishFrom left a (k + 1) q = some w → ∃ i row', w.1 = k + i ∧ (row :: q)[i]? = some row' ∧ w.2.2 = a ∧ a ∈ row' ∧ w.2.1 ∈ ahead left row' a := fun h => by
      obtain ⟨i, row', h1, h2, h3⟩ := wishFrom_ok h
      exact ⟨i + 1, row', by omega, by simpa using h2, h3⟩
    split at h
    · next ha =>
      split at h
      · next b t e =>
        cases h
        exact ⟨0, row, rfl, rfl, rfl, ha, by rw [e]; exact List.mem_cons_self⟩
      · exact next h
    · exact next h
theorem wishOf_ok {rs : List (List Str)} {left : List Str} {a : Str} {w : Wish} (h : wishOf rs left a = some w) : Wished rs w ∧ w.2.2 = a ∧ w.2.1 ∈ left := by
  obtain ⟨i, row, h1, h2, h3, h4, h5⟩ := wishFrom_ok h
  obtain ⟨h6, h7, h8⟩ := mem_ahead h5
  refine ⟨⟨row, by rw [h1, Nat.zero_add]; exact h2, h7, h3 ▸ h4, by rw [h3]; exact h8⟩, h3, h6⟩
theorem ringRun_ok {rs : List (List Str)} {left : List Str} (hf : ∀ a ∈ left, wishOf rs left a ≠ none) :
    ∀ (n : Nat) (names : List Str) (wishes : List Wish), names ≠ [] → (∀ s ∈ names, s ∈ left) → (∀ w ∈ wishes, Wished rs w) → names.tail = wishes.map (fun w => w.2.1) → names.dropLast = wishes.map (fun w => w.2.2) → (names.Nodup ∨ (names.dropLast.Nodup ∧ ¬ names.Nodup)) → left.length + 1 ≤ names.length + n →
      ∃ N Wi, ringRun (wishOf rs left) n names wishes = (N, Wi) ∧ (∀ w ∈ Wi, Wished rs w) ∧ N.tail = Wi.map (fun w => w.2.1) ∧ N.dropLast = Wi.map (fun w => w.2.2) ∧ N.dropLast.Nodup ∧ ¬ N.Nodup ∧ N ≠ []
  | n, names, wishes, h1, h2, h3, h4, h5, h6, h7 => by
    rcases h6 with h6 | ⟨h6, h6'⟩
    · have hl := nodup_sub_len h6 h2
      cases n with
      | zero => omega
      | succ n =>
        have hg : names.getLast? = some (names.getLast h1) := List.getLast?_eq_some_getLast h1
        have hm := h2 _ (List.getLast_mem h1)
        cases hw : wishOf rs left (names.getLast h1) with
        | none => exact absurd hw (hf _ hm)
        | some w =>
          obtain ⟨k1, k2, k3⟩ := wishOf_ok hw
          unfold ringRun
          rw [if_pos h6]
          unfold lastOf
          rw [hg]
          show ∃ N Wi, (match wishOf rs left (names.getLast h1) with | some w => ringRun (wishOf rs left) n (names ++ [w.2.1]) (wishes ++ [w]) | none => (names, wishes)) = (N, Wi) ∧ _
          rw [hw]
          have e1 : names.dropLast ++ [names.getLast h1] = names := List.dropLast_concat_getLast h1
          refine ringRun_ok hf n _ _ (by simp) ?_ ?_ ?_ ?_ ?_ (by simp; omega)
          · intro s hs
            rcases List.mem_append.mp hs with hs | hs
            · exact h2 s hs
            · rw [List.mem_singleton.mp hs]; exact k3
          · intro v hv
            rcases List.mem_append.mp hv with hv | hv
            · exact h3 v hv
            · rw [List.mem_singleton.mp hv]; exact k1
          · rw [List.tail_append_of_ne_nil h1, h4]; simp
          · rw [List.dropLast_concat, List.map_append, ← h5, List.map_singleton, k2, e1]
          · rw [List.dropLast_concat]
            by_cases z : (names ++ [w.2.1]).Nodup
            · exact .inl z
            · exact .inr ⟨h6, z⟩
    · refine ⟨names, wishes, ?_, h3, h4, h5, h6, h6', h1⟩
      cases n with
      | zero => rfl
      | succ n => unfold ringRun; rw [if_neg h6']
theorem ring_of_names {rs : List (List Str)} {N : List Str} {Wi : List Wish} (h1 : ∀ w ∈ Wi, Wished rs w) (h2 : N.tail = Wi.map (fun w => w.2.1)) (h3 : N.dropLast = Wi.map (fun w => w.2.2)) (h4 : N.dropLast.Nodup) (h5 : ¬ N.Nodup) (h6 : N ≠ []) :
    ∃ l g, N.getLast? = some l ∧ N.findIdx? (· == l) = some g ∧ g ≤ Wi.length ∧ IsRing rs (Wi.drop g).reverse := by
  have e1 : N.dropLast ++ [N.getLast h6] = N := List.dropLast_concat_getLast h6
  generalize hi : N.dropLast = init at *
  generalize hl : N.getLast h6 = l at *
  have hm : l ∈ init := by
    apply Classical.byContradiction
    intro z
    apply h5
    rw [← e1, List.nodup_append]
    refine ⟨h4, by simp, fun a ha b hb => ?_⟩
    rw [List.mem_singleton] at hb
    subst hb
    intro e
    subst e
    exact z ha
  have hg : init.findIdx (· == l) < init.length := List.findIdx_lt_length_of_exists ⟨l, hm, by simp⟩
  refine ⟨l, init.findIdx (· == l), by rw [← e1]; simp, ?_, ?_, ?_⟩
  · rw [← e1, List.findIdx?_append, idx_some hm]; rfl
  · have : Wi.length = init.length := by rw [h3, List.length_map]
    omega
  generalize hgg : init.findIdx (· == l) = g at *
  have hat : init[g]? = some l := by
    have := List.findIdx_getElem (p := (· == l)) (xs := init) (w := by omega)
    rw [List.getElem?_eq_getElem hg]
    subst hgg
    rw [eq_of_beq this]
  have d1 : init.drop g = l :: init.drop (g + 1) := by
    rw [List.drop_eq_getElem_cons hg]
    rw [List.getElem?_eq_getElem hg] at hat
    injection hat with hat
    rw [hat]
  have d2 : (Wi.drop g).map (fun w => w.2.2) = l :: init.drop (g + 1) := by rw [List.map_drop, ← h3, d1]
  have d3 : (Wi.drop g).map (fun w => w.2.1) = init.drop (g + 1) ++ [l] := by
    rw [List.map_drop, ← h2, ← e1]
    rw [List.tail_append_of_ne_nil (by intro z; rw [z] at hg; simp at hg), ← List.drop_one, List.drop_append_of_le_length (by simp; omega), List.drop_drop]
    congr 2
    omega
  have nd : (l :: init.drop (g + 1)).Nodup := by rw [← d1]; exact h4.sublist (List.drop_sublist _ _)
  have hall : ∀ w ∈ (Wi.drop g).reverse, Wished rs w := fun w hw => h1 w (List.mem_of_mem_drop (List.mem_reverse.mp hw))
  have e2 : ((Wi.drop g).reverse.map fun w => w.2.1) = l :: (init.drop (g + 1)).reverse := by rw [List.map_reverse, d3]; simp
  have e3 : ((Wi.drop g).reverse.map fun w => w.2.2) = (init.drop (g + 1)).reverse ++ [l] := by rw [List.map_reverse, d2]; simp
  refine ⟨?_, hall, ?_, ?_⟩
  · cases hd : init.drop (g + 1) with
    | cons x r =>
      have := congrArg List.length e2
      rw [hd] at this
      simp at this
      simp only [List.length_reverse, List.length_drop] at this ⊢
      omega
    | nil =>
      exfalso
      rw [hd] at d2 d3
      cases hw : Wi.drop g with
      | nil => rw [hw] at d2; cases d2
      | cons w t =>
        rw [hw] at d2 d3
        simp only [List.map_cons, List.nil_append, List.cons.injEq] at d2 d3
        obtain ⟨row, _, _, _, hlt⟩ := hall w (by rw [hw]; simp)
        rw [d2.1, d3.1] at hlt
        omega
  · rw [e2]
    rw [List.nodup_cons] at nd ⊢
    exact ⟨fun h => nd.1 (List.mem_reverse.mp h), List.pairwise_reverse.mpr (nd.2.imp fun h => Ne.symm h)⟩
  · rw [e2, e3]; simp
end Dl
namespace Dl
open PySem PySem.Spec PyProof.Rows L2
abbrev cS (xs : List Str) : Cell := .lst ((sD xs).map W.d)
theorem str_snoc (xs : List Str) (s : Str) : (sD xs).map W.d ++ [.d (.str s)] = (sD (xs ++ [s])).map W.d := by simp
/-! ### merged -/
def freeOf (rs : List (List Str)) (left : List Str) : List Str := left.filter fun a => (wishOf rs left a).isNone
def mergeGo (rs : List (List Str)) : Nat → List Str → List Str → Except (List Wish) (List Str)
  | 0, _, found => .ok found
  | n + 1, left, found => if left = [] then .ok found else match freeOf rs left with
    | [] => .error (ringOf rs left)
    | a :: _ => mergeGo rs n (left.erase a) (found ++ [a])
def mergedOf (rs : List (List Str)) : Except (List Wish) (List Str) := mergeGo rs ((namesOf rs).length + 1) (namesOf rs) []
theorem free_none {rs : List (List Str)} {left : List Str} (h : freeOf rs left = []) : ∀ a ∈ left, wishOf rs left a ≠ none := by
  intro a ha e
  have : a ∈ freeOf rs left := List.mem_filter.mpr ⟨ha, by rw [e]; rfl⟩
  rw [h] at this
  cases this
theorem map_erase {α β : Type} (f : α → β) : ∀ (xs : List α) (m : Nat), (xs.eraseIdx m).map f = (xs.map f).eraseIdx m
  | [], _ => by simp
  | _ :: _, 0 => rfl
  | x :: r, m + 1 => by simp [map_erase f r m]
end Dl
namespace Dl
open PySem PySem.Spec PyProof.Rows L2
/-! ### what merged tells -/
theorem wishFrom_none {left : List Str} {a : Str} : ∀ {k : Nat} {q : List (List Str)}, wishFrom left a k q = none → ∀ row ∈ q, a ∈ row → ahead left row a = []
  | _, [], _, row, h, _ => by cases h
  | k, r :: q, h, row, hm, ha => by
    unfold wishFrom at h
    by_cases z : a ∈ r
    · rw [if_pos z] at h
      cases hh : ahead left r a with
      | cons b t => rw [hh] at h; cases h
      | nil =>
        rw [hh] at h
        rcases List.mem_cons.mp hm with rfl | hm
        · exact hh
        · exact wishFrom_none h row hm ha
    · rw [if_neg z] at h
      rcases List.mem_cons.mp hm with rfl | hm
      · exact absurd ha z
      · exact wishFrom_none h row hm ha
theorem filter_split {row left : List Str} {a : Str} (nd : row.Nodup) (nl : left.Nodup) (ha : a ∈ row) (hl : a ∈ left) (h : ahead left row a = []) :
    row.filter (fun s => decide (s ∈ left)) = a :: row.filter (fun s => decide (s ∈ left.erase a)) := by
  have hi : row.findIdx (· == a) < row.length := List.findIdx_lt_length_of_exists ⟨a, ha, by simp⟩
  have hat : row[row.findIdx (· == a)] = a := by
    have := List.findIdx_getElem (p := (· == a)) (xs := row) (w := hi)
    exact eq_of_beq this
  have e : row = row.take (row.findIdx (· == a)) ++ a :: row.drop (row.findIdx (· == a) + 1) := by
    conv => lhs; rw [← List.take_append_drop (row.findIdx (· == a)) row, List.drop_eq_getElem_cons hi, hat]
  unfold ahead at h
  generalize row.take (row.findIdx (· == a)) = u at *
  generalize row.drop (row.findIdx (· == a) + 1) = v at *
  subst e
  have h2 : u.filter (fun s => decide (s ∈ left.erase a)) = [] := by
    rw [List.filter_eq_nil_iff] at h ⊢
    intro s hs z
    exact h s hs (by have := of_decide_eq_true z; exact decide_eq_true (List.mem_of_mem_erase this))
  have h3 : v.filter (fun s => decide (s ∈ left.erase a)) = v.filter (fun s => decide (s ∈ left)) := by
    apply List.filter_congr
    intro s hs
    have hne : s ≠ a := by
      rintro rfl
      have := (List.nodup_append.mp nd).2.1
      rw [List.nodup_cons] at this
      exact this.1 hs
    simp [List.mem_erase_of_ne hne]
  rw [List.filter_append, h, List.filter_append, h2, List.filter_cons_of_pos (by simpa using hl), List.filter_cons_of_neg (by simp [List.Nodup.mem_erase_iff nl]), h3]
  rfl
structure Order (rs : List (List Str)) (order : List Str) : Prop where
  perm : order.Perm (namesOf rs)
  keep : ∀ r ∈ rs, order.filter (fun s => decide (s ∈ r)) = r
theorem mergeGo_ok {rs : List (List Str)} (hr : ∀ r ∈ rs, r.Nodup) : ∀ (n : Nat) (left found : List Str), left.length < n → left.Nodup → (found ++ left).Perm (namesOf rs) → (∀ r ∈ rs, found.filter (fun s => decide (s ∈ r)) ++ r.filter (fun s => decide (s ∈ left)) = r) →
    match mergeGo rs n left found with
    | .ok order => Order rs order
    | .error ring => IsRing rs ring
  | 0, left, found, hn, _, _, _ => by omega
  | n + 1, left, found, hn, nd, hp, hk => by
    unfold mergeGo
    by_cases z : left = []
    · rw [if_pos z]
      subst z
      rw [List.append_nil] at hp
      refine ⟨hp, fun r hr' => ?_⟩
      have := hk r hr'
      have e : r.filter (fun s => decide (s ∈ ([] : List Str))) = [] := List.filter_eq_nil_iff.mpr fun s _ h => by cases of_decide_eq_true h
      rw [e, List.append_nil] at this
      exact this
    · rw [if_neg z]
      cases hf : freeOf rs left with
      | nil =>
        show IsRing rs (ringOf rs left)
        obtain ⟨a0, t, rfl⟩ : ∃ a t, left = a :: t := by cases left with | nil => exact absurd rfl z | cons a t => exact ⟨a, t, rfl⟩
        obtain ⟨N, Wi, e, r1, r2, r3, r4, r5, r6⟩ := ringRun_ok (free_none hf) ((a0 :: t).length + 1) [a0] [] (by simp) (by simp) (by simp) rfl rfl (.inl (by simp)) (by simp)
        obtain ⟨l0, g0, q1, q2, q3, q4⟩ := ring_of_names r1 r2 r3 r4 r5 r6
        have er : ringOf rs (a0 :: t) = (Wi.drop g0).reverse := by
          unfold ringOf
          rw [show (a0 :: t).take 1 = [a0] from rfl, e]
          dsimp only
          rw [q1]
          show (Wi.drop ((N.findIdx? (· == l0)).getD 0)).reverse = _
          rw [q2]; rfl
        rw [er]
        exact q4
      | cons a t =>
        have ha : a ∈ freeOf rs left := by rw [hf]; exact List.mem_cons_self
        obtain ⟨ha, hw⟩ := List.mem_filter.mp ha
        have hw : wishOf rs left a = none := by simpa using hw
        have hle := List.length_erase_of_mem ha
        have hpos := List.length_pos_of_mem ha
        refine mergeGo_ok hr n (left.erase a) (found ++ [a]) (by omega) (nd.sublist List.erase_sublist) ?_ fun r hr' => ?_
        · refine List.Perm.trans ?_ hp
          rw [List.append_assoc]
          exact List.Perm.append_left _ (List.perm_cons_erase ha).symm
        · have hk' := hk r hr'
          by_cases har : a ∈ r
          · rw [filter_split (hr r hr') nd har ha (wishFrom_none hw r hr' har)] at hk'
            rw [List.filter_append, List.filter_cons_of_pos (by simpa using har), List.append_assoc]
            exact hk'
          · have e : r.filter (fun s => decide (s ∈ left.erase a)) = r.filter (fun s => decide (s ∈ left)) := by
              apply List.filter_congr
              intro s hs
              have hne : s ≠ a := by rintro rfl; exact har hs
              simp [List.mem_erase_of_ne hne]
            rw [List.filter_append, List.filter_cons_of_neg (by simpa using har), e, List.filter_nil, List.append_nil]
            exact hk'
theorem namesOf_mem {rs : List (List Str)} {r : List Str} {s : Str} (hr : r ∈ rs) (hs : s ∈ r) : s ∈ namesOf rs := mem_met (List.mem_flatten.mpr ⟨r, hr, hs⟩)
theorem merged_ok {rs : List (List Str)} (hr : ∀ r ∈ rs, r.Nodup) : match mergedOf rs with
    | .ok order => Order rs order
    | .error ring => IsRing rs ring := by
  refine mergeGo_ok hr _ _ _ (Nat.lt_succ_self _) (met_nodup _) (by simp) fun r hr' => ?_
  rw [List.filter_nil, List.nil_append]
  rw [List.filter_eq_self]
  intro s hs
  exact decide_eq_true (namesOf_mem hr' hs)
end Dl
namespace Dl
open PySem PySem.Spec PyProof.Rows L2
/-! ### sorted, all -/
class BoolsD (ds : List PyData) (bs : outParam (List Bool)) : Prop where
  e : boolsD ds = some bs
theorem boolsD_mapf {α : Type} (f : α → Bool) (xs : List α) : boolsD (xs.map fun x => .bool (f x)) = some (xs.map f) := by
  induction xs with
  | nil => rfl
  | cons x r ih => show (match boolsD (r.map fun x => .bool (f x)) with | some bs => some (f x :: bs) | none => none) = _; rw [ih]; rfl
instance {α : Type} {f : α → Bool} {xs : List α} : BoolsD (xs.map fun x => .bool (f x)) (xs.map f) := ⟨boolsD_mapf f xs⟩
theorem go_all {ds : List PyData} {bs : List Bool} {O : Oh} {R : DK} [b : BoolsD ds bs] (h : R (.d (.bool (bs.all id))) O) : dAll [.d (.list ds)] O R := by
  unfold dAll; dsimp only; rw [b.e]; exact h
instance {ds : List PyData} {bs : List Bool} {O : Oh} {R : DK} [b : BoolsD ds bs] : Go (dAll [.d (.list ds)] O R) (R (.d (.bool (bs.all id))) O) := ⟨go_all⟩
theorem alike_sD (xs : List Str) : alikeB (sD xs) = true := by
  unfold alikeB
  rw [List.all_eq_true]
  intro d hd
  obtain ⟨s, _, rfl⟩ := List.mem_map.mp hd
  rw [List.all_eq_true]
  intro e he
  obtain ⟨t, _, rfl⟩ := List.mem_map.mp he
  rfl
theorem sortable_sD (xs : List Str) : sortableB (sD xs) = true := by
  unfold sortableB
  rw [Bool.or_eq_true]
  right
  rw [List.all_eq_true]
  intro d hd
  obtain ⟨s, _, rfl⟩ := List.mem_map.mp hd
  rfl
class SrtS (x : W) (O : Oh) (xs : outParam (List Str)) : Prop where
  n : asDk x O = none
  e : asS x O = some ((sD xs).map W.d)
instance {O : Oh} {xs : List Str} : SrtS (.d (.tuple (xs.map PyData.str))) O xs := ⟨rfl, rfl⟩
instance {O : Oh} {xs : List Str} : SrtS (.d (.list (xs.map PyData.str))) O xs := ⟨rfl, rfl⟩
instance {O : Oh} {j : Nat} {xs : List Str} [g : Cl O j (.lst ((xs.map PyData.str).map W.d))] : SrtS (.c j) O xs := ⟨(inferInstance : NoDk (.c j) O).e, by unfold asS; dsimp only; rw [g.e]⟩
theorem go_sorted {x : W} {O : Oh} {xs : List Str} {R : DK} [q : SrtS x O xs] (h : R (.d (lS (srtS xs))) O) : dSorted [x] O R := by
  unfold dSorted; dsimp only; rw [q.n]; dsimp only; rw [q.e]; dsimp only; rw [datas_sD]; dsimp only
  rw [srtD_strs]
  exact ⟨alike_sD xs, sortable_sD xs, shp_sD 40 xs, h⟩
instance {x : W} {O : Oh} {xs : List Str} {R : DK} [q : SrtS x O xs] : Go (dSorted [x] O R) (R (.d (lS (srtS xs))) O) := ⟨go_sorted⟩
end Dl
namespace Dl
open PySem PySem.Spec PyProof.Rows L2
class AtN {α : Type} (xs : List α) (k : Nat) (x : outParam α) : Prop where
  e : xs[k]? = some x
instance {α : Type} {en : α → PyData} {xs : List α} {k : Nat} {x : α} [a : AtN xs k x] : Ix (xs.map en) (k : Nat) (en x) := ⟨atI_map (by rw [List.getElem?_map, a.e]; rfl)⟩
/-! #### + of lists, and slices of what is new -/
end Dl
namespace Dl
open PySem PySem.Spec PyProof.Rows L2
/-! ### lists of numbers -/
theorem eqv_int (a b : Int) : PyData.eqv (.int a) (.int b) = decide (a = b) := by simp [PyData.eqv]; rfl
theorem Order.nd {rs : List (List Str)} {order : List Str} (k : Order rs order) : order.Nodup := k.perm.nodup_iff.mpr (met_nodup _)
theorem Order.mem {rs : List (List Str)} {order : List Str} (k : Order rs order) {r : List Str} {s : Str} (hr : r ∈ rs) (hs : s ∈ r) : s ∈ order := k.perm.mem_iff.mpr (namesOf_mem hr hs)
end Dl
namespace Dl
open PySem PySem.Spec PyProof.Rows L2
/-! ### pots -/
abbrev potC (x y : Int) : Cell := .lst (([.int x, .int y] : List PyData).map W.d)
def PotOk (x y : Int) : Prop := 0 ≤ x ∧ 0 ≤ y ∧ y < 1099511627776
def PotAt (O : Oh) (p : Nat) : Prop := ∃ x y, O[p]? = some (potC x y) ∧ PotOk x y
def Chg (p : Nat) (O O' : Oh) : Prop := p < O.length ∧ ∃ x y, O' = O.set p (potC x y) ∧ PotOk x y
theorem Chg.pot {p : Nat} {O O' : Oh} (h : Chg p O O') : PotAt O' p := by
  obtain ⟨hp, x, y, rfl, ok⟩ := h
  exact ⟨x, y, by rw [List.getElem?_set_self hp], ok⟩
theorem Chg.trans {p : Nat} {O O1 O2 : Oh} (h : Chg p O O1) (h2 : Chg p O1 O2) : Chg p O O2 := by
  obtain ⟨hp, x, y, rfl, ok⟩ := h
  obtain ⟨_, x2, y2, rfl, ok2⟩ := h2
  exact ⟨hp, x2, y2, by rw [List.set_set], ok2⟩
theorem PotAt.lt {O : Oh} {p : Nat} (h : PotAt O p) : p < O.length := by
  obtain ⟨x, y, e, _⟩ := h
  exact (List.getElem?_eq_some_iff.mp e).1
theorem PotAt.chg {O : Oh} {p : Nat} (h : PotAt O p) : Chg p O O := by
  have hl := h.lt
  obtain ⟨x, y, e, ok⟩ := h
  refine ⟨hl, x, y, ?_, ok⟩
  rw [List.getElem?_eq_getElem hl] at e
  injection e with e
  rw [← e, List.set_getElem_self]
theorem PotAt.app {O L : Oh} {p : Nat} (h : PotAt O p) : PotAt (O ++ L) p := by
  have hl := h.lt
  obtain ⟨x, y, e, ok⟩ := h
  exact ⟨x, y, by rw [List.getElem?_append_left hl]; exact e, ok⟩
theorem Chg.app {p : Nat} {O L S : Oh} (h : Chg p (O ++ L) S) (hp : p < O.length) : ∃ O1, S = O1 ++ L ∧ Chg p O O1 := by
  obtain ⟨_, x, y, rfl, ok⟩ := h
  exact ⟨O.set p (potC x y), by rw [List.set_append_left _ _ hp], hp, x, y, rfl, ok⟩
theorem Chg.len {p : Nat} {O O1 : Oh} (h : Chg p O O1) : O1.length = O.length := by
  obtain ⟨_, x, y, rfl, _⟩ := h
  rw [List.length_set]
theorem Chg.clo {p n : Nat} {O O1 : Oh} (h : Chg p O O1) (c : CloC n O) : CloC n O1 := by
  obtain ⟨_, x, y, rfl, _⟩ := h
  refine ⟨?_⟩
  have := c.e
  unfold Clo at this ⊢
  rw [List.all_eq_true] at this ⊢
  intro z hz
  rcases List.mem_or_eq_of_mem_set hz with hz | rfl
  · exact this z hz
  · rfl
/-- the store at the start, and as it is, but for the pot -/
structure Pt (p n : Nat) (O0 O : Oh) : Prop where
  chg : Chg p O0 O
  l : Len O n
  c : CloC n O
theorem Pt.start {p n : Nat} {O : Oh} (h : PotAt O p) (l : Len O n) (c : CloC n O) : Pt p n O O := ⟨h.chg, l, c⟩
theorem Pt.lt {p n : Nat} {O0 O : Oh} (h : Pt p n O0 O) : p < O.length := by rw [h.chg.len]; exact h.chg.1
theorem Pt.step {p n : Nat} {O0 O L S : Oh} (h : Pt p n O0 O) (k : Chg p (O ++ L) S) : ∃ O1, S = O1 ++ L ∧ Pt p n O0 O1 := by
  obtain ⟨O1, e, k⟩ := k.app h.lt
  exact ⟨O1, e, h.chg.trans k, ⟨by rw [k.len]; exact h.l.e⟩, k.clo h.c⟩
/-- a def that draws from the pot at p -/
def Draws (p : Nat) (f : DFn) (args : List W) (Q : PyData → Prop) : Prop := ∀ (O : Oh) (R : DK) (xe : Exn → Oh → Prop), PotAt O p → (∀ v O', Q v → Chg p O O' → R (.d v) O') → f args O R xe
theorem pt_call {p n : Nat} {f : DFn} {args : List W} {Q : PyData → Prop} {O0 O L : Oh} {R : DK} {xe : Exn → Oh → Prop} (d : Draws p f args Q) (h : Pt p n O0 O)
    (k : ∀ v O1, Q v → Pt p n O0 O1 → R (.d v) (O1 ++ L)) : f args (O ++ L) R xe := by
  refine d _ _ _ (PotAt.app (h.chg.pot)) fun v O' hq hc => ?_
  obtain ⟨O1, rfl, h1⟩ := h.step hc
  exact k v O1 hq h1
theorem digit_draws {p : Nat} {m : Int} (hm : 0 < m) (hz : m ≤ 4611686018427387904) : Draws p w__law_digit [.c p, .d (.int m)] fun v => ∃ d : Nat, v = .int d ∧ (d : Int) < m := by
  intro O R xe hp h
  have hlt := hp.lt
  obtain ⟨x, y, e, ok⟩ := hp
  obtain ⟨ok1, ok2, ok3⟩ := id ok
  refine def_start rfl fun n l cl => ?_
  haveI : Cl O p (potC x y) := ⟨e⟩
  repeat refine Go.h ?_
  refine dcase (fun hx => ?_) (fun hx => ?_)
  · repeat refine Go.h ?_
    refine ⟨hm, ?_⟩
    repeat refine Go.h ?_
    refine ⟨⟨hm, ?_⟩, ?_⟩
    · have h1 : m.natAbs < 2 ^ 63 := by omega
      have h2 : m.natAbs.log2 < 63 := (Nat.log2_lt (by omega)).mpr h1
      omega
    repeat refine Go.h ?_
    have hc : Chg p O (O.set p (potC (x / m) y)) := ⟨hlt, _, _, rfl, Int.ediv_nonneg ok1 (by omega), ok2, ok3⟩
    refine putix_lst (m := 0) rfl ?_
    rw [List.set_append_left _ _ hlt]
    haveI := hc.clo cl
    haveI : Len (O.set p (potC (x / m) y)) n := ⟨by rw [hc.len]; exact l.e⟩
    show dRet _ _ _ _ (O.set p (potC (x / m) y) ++ [])
    repeat refine Go.h ?_
    refine h _ _ ⟨(x % m).toNat, ?_, ?_⟩ hc
    · rw [Int.toNat_of_nonneg (Int.emod_nonneg _ (by omega))]
    · rw [Int.toNat_of_nonneg (Int.emod_nonneg _ (by omega))]; exact Int.emod_lt_of_pos _ hm
  · repeat refine Go.h ?_
    refine ⟨.inl ⟨by omega, by omega⟩, ?_⟩
    repeat refine Go.h ?_
    refine ⟨by decide, ?_⟩
    repeat refine Go.h ?_
    have hc : Chg p O (O.set p (potC x ((y * 39373 + 20011) % 2147483647))) := ⟨hlt, _, _, rfl, ok1, Int.emod_nonneg _ (by decide), Int.lt_trans (Int.emod_lt_of_pos _ (by decide)) (by decide)⟩
    refine putix_lst (m := 1) rfl ?_
    rw [List.set_append_left _ _ hlt]
    haveI := hc.clo cl
    have y2 := Int.emod_nonneg (y * 39373 + 20011) (b := 2147483647) (by decide)
    have y3 := Int.emod_lt_of_pos (y * 39373 + 20011) (b := 2147483647) (by decide)
    generalize (y * 39373 + 20011) % 2147483647 = z at *
    haveI : Len (O.set p (potC x z)) n := ⟨by rw [hc.len]; exact l.e⟩
    haveI : Cl (O.set p (potC x z)) p (potC x z) := ⟨List.getElem?_set_self hlt⟩
    show dRet _ _ _ _ (O.set p (potC x z) ++ [])
    repeat refine Go.h ?_
    refine ⟨.inl ⟨by omega, by omega⟩, ?_⟩
    repeat refine Go.h ?_
    refine ⟨by decide, ?_⟩
    repeat refine Go.h ?_
    refine ⟨⟨by decide, by decide⟩, ?_⟩
    repeat refine Go.h ?_
    refine ⟨hm, ?_⟩
    repeat refine Go.h ?_
    refine h _ _ ⟨(z * z % 2147483563 / 11 % m).toNat, ?_, ?_⟩ hc
    · rw [Int.toNat_of_nonneg (Int.emod_nonneg _ (by omega))]
    · rw [Int.toNat_of_nonneg (Int.emod_nonneg _ (by omega))]; exact Int.emod_lt_of_pos _ hm
end Dl
namespace Dl
open PySem PySem.Spec PyProof.Rows L2
/-! ### letters -/
abbrev sg (c : Nat) : Str := ⟨#[c]⟩
theorem len_cps (s : Str) : s.length = s.cps.toList.length := rfl
theorem letters_at : ∀ d : Nat, d < 26 → ("abcdefghijklmnopqrstuvwxyz" : Str).cps.toList[d]? = some (97 + d) := by decide +kernel
theorem go_ixS {s : Str} {i : Int} {c : Nat} {O : Oh} {R : DK} (hl : s.length ≤ 1000000) (hc : atI s.cps.toList i = some c) (h : R (.d (.str (sg c))) O) : dIx2 (.d (.str s)) (.d (.int i)) O R := by
  show (s.length ≤ 1000000 ∧ _)
  refine ⟨hl, ?_⟩
  rw [hc]
  exact h
theorem go_letter {d : Nat} {O : Oh} {R : DK} (hd : d < 26) (h : R (.d (.str (sg (97 + d)))) O) : dIx2 (.d (.str "abcdefghijklmnopqrstuvwxyz")) (.d (.int (d : Nat))) O R :=
  go_ixS (by decide +kernel) (atI_nat (letters_at d hd)) h
def kJoin2 (z : Str) (R : DK) : DK := fun x O2 => match asS x O2 with
  | some ws => (match datas ws with
    | some ds => (match strsD ds with
      | some ys => (ys.map (·.length)).sum + ys.length * z.length ≤ 1000000 ∧ R (.d (.str (Txt.join z ys))) O2
      | none => False)
    | none => False)
  | none => False
def kJoin1 (wa : DEx) (Γ : Gm) (R : DK) (xe : DX) : DK := fun o O1 => match o with
  | .d (.str z) => wa Γ O1 (kJoin2 z R) xe
  | _ => False
instance {R : DK} {Γ : Gm} {O : Oh} {xe : DX} {wo wa : DEx} : Go (dJoin wo wa Γ O R xe) (wo Γ O (kJoin1 wa Γ R xe) xe) := ⟨fun h => h⟩
instance {R : DK} {Γ : Gm} {O : Oh} {xe : DX} {wa : DEx} {z : Str} : Go (kJoin1 wa Γ R xe (.d (.str z)) O) (wa Γ O (kJoin2 z R) xe) := ⟨fun h => h⟩
theorem go_join {x : W} {O : Oh} {ys : List Str} {z : Str} {R : DK} [q : SrtS x O ys] (hz : (ys.map (·.length)).sum + ys.length * z.length ≤ 1000000) (h : R (.d (.str (Txt.join z ys))) O) : kJoin2 z R x O := by
  unfold kJoin2; rw [q.e]; dsimp only; rw [datas_sD]; dsimp only; rw [strsD_map]; exact ⟨hz, h⟩
theorem sum_len {ys : List Str} (h : ∀ y ∈ ys, y.length ≤ 1) : (ys.map (·.length)).sum ≤ ys.length := by
  induction ys with
  | nil => simp
  | cons y r ih =>
    have h1 := h y List.mem_cons_self
    have h2 := ih fun y hy => h y (List.mem_cons_of_mem _ hy)
    simp only [List.map_cons, List.sum_cons, List.length_cons]
    omega
theorem strOk_sg {c : Nat} (h : c < 1114112) : PyData.strOk (sg c) = true := by
  unfold PyData.strOk; simp [h]
theorem strOk_join0 {ys : List Str} (h : ∀ y ∈ ys, PyData.strOk y = true) : PyData.strOk (Txt.join "" ys) = true := strOk_join (by decide +kernel) (List.all_eq_true.mpr h)
theorem go_slS {s : Str} {lo hi : Option Int} {O : Oh} {R : DK} (hl : s.length ≤ 1000000) (h : R (.d (.str (cutS s lo hi))) O) : dSl (.d (.str s)) lo hi O R := ⟨hl, h⟩
theorem len_app (a b : Str) : (a ++ b).length = a.length + b.length := by
  show (a.cps ++ b.cps).size = _
  rw [Array.size_append]; rfl
theorem go_addS {a b : Str} {O : Oh} {R : DK} (hl : a.length + b.length ≤ 1000000) (h : R (.d (.str (a ++ b))) O) : dAdd (.d (.str a)) (.d (.str b)) O R := ⟨hl, h⟩
def cand (u : Str) (t : Nat) : Str := u ++ sg (97 + t) ++ "q"
theorem cps_app (a b : Str) : (a ++ b).cps.toList = a.cps.toList ++ b.cps.toList := by
  show (a.cps ++ b.cps).toList = _
  rw [Array.toList_append]
theorem cand_inj {u : Str} {s t : Nat} (h : cand u s = cand u t) : s = t := by
  have h := congrArg (fun x : Str => x.cps.toList) h
  unfold cand at h
  simp only [cps_app, List.append_assoc] at h
  have h := List.append_cancel_left h
  injection h with h _
  omega
theorem cut_len6 (s : Str) : (cutS s none (some 6)).length ≤ 6 := by
  unfold cutS
  rw [HT.sIx_none, show (6 : Int) = ((6 : Nat) : Int) from rfl, HT.sIx_nat]
  show (List.toArray _).size ≤ 6
  rw [List.size_toArray, List.length_take]
  omega
theorem cand_ok {s : Str} {t : Nat} (h : OkS s) (ht : t < 26) : OkS (cand (cutS s none (some 6)) t) := by
  refine ⟨strOk_append (strOk_append (strOk_cut h.1) (strOk_sg (by omega))) (by decide +kernel), ?_⟩
  unfold cand
  rw [len_app, len_app]
  have := cut_len6 s
  show _ + 1 + 1 ≤ 12
  omega
/-- one of many unlike ones is not among few -/
theorem one_new {xs found : List Str} (nd : xs.Nodup) (h : found.length < xs.length) : (xs.filter fun s => decide (s ∉ found)) ≠ [] := by
  intro e
  rw [List.filter_eq_nil_iff] at e
  have := nodup_sub_len nd fun x hx => Classical.byContradiction fun z => e x hx (decide_eq_true z)
  omega
theorem cands_nd (u : Str) (n : Nat) : ((List.range n).map (cand u)).Nodup := by
  unfold List.Nodup
  rw [List.pairwise_map]
  exact List.Pairwise.imp (fun {a b} hab e => hab (cand_inj e)) List.nodup_range
/-- a name -/
def IsNm (s : Str) : Prop := 1 ≤ s.length ∧ s.length ≤ 8 ∧ ∀ c ∈ s.cps.toList, 97 ≤ c ∧ c < 123
structure NamesD (xs : List Str) (m : Nat) : Prop where
  nd : xs.Nodup
  ok : ∀ s ∈ xs, OkS s
  len : xs.length = m
  low : ∀ s ∈ xs, IsNm s
theorem join_len1 {ys : List Str} (h : ∀ y ∈ ys, y.length = 1) : (Txt.join "" ys).length = ys.length := by
  rw [len_cps, join_list, List.length_append]
  have e : ∀ zs : List Str, (∀ y ∈ zs, y.length = 1) → ((zs.map fun p => ("" : Str).cps.toList ++ p.cps.toList).flatten).length = zs.length := by
    intro zs
    induction zs with
    | nil => intro _; simp
    | cons z r ih =>
      intro h
      rw [List.map_cons, List.flatten_cons, List.length_append, List.length_cons, List.length_append]
      have h1 := h z List.mem_cons_self
      rw [len_cps] at h1
      have h2 := ih fun y hy => h y (List.mem_cons_of_mem _ hy)
      have h3 : ("" : Str).cps.toList.length = 0 := rfl
      omega
  cases ys with
  | nil => rfl
  | cons y r =>
    have h1 := h y List.mem_cons_self
    rw [len_cps] at h1
    have h2 := e r fun y hy => h y (List.mem_cons_of_mem _ hy)
    simp only [List.headD_cons, List.drop_succ_cons, List.drop_zero, List.length_cons] at h2 ⊢
    omega
theorem low_join {ys : List Str} (h : ∀ y ∈ ys, ∀ c ∈ y.cps.toList, 97 ≤ c ∧ c < 123) : ∀ c ∈ (Txt.join "" ys).cps.toList, 97 ≤ c ∧ c < 123 := fun c hc => by
  rcases join_cps _ _ c hc with hc | ⟨y, hy, hc⟩
  · cases hc
  · exact h y hy c hc
theorem cut_mem {s : Str} {lo hi : Option Int} {c : Nat} (h : c ∈ (cutS s lo hi).cps.toList) : c ∈ s.cps.toList := by
  unfold cutS at h
  simp only [] at h
  exact List.mem_of_mem_drop (List.mem_of_mem_take h)
theorem cand_low {s : Str} {t : Nat} (h : IsNm s) (ht : t < 26) : IsNm (cand (cutS s none (some 6)) t) := by
  obtain ⟨h1, h2, h3⟩ := h
  have h6 := cut_len6 s
  refine ⟨?_, ?_, fun c hc => ?_⟩
  · unfold cand
    rw [len_app, len_app]
    show 1 ≤ _ + 1 + 1
    omega
  · unfold cand
    rw [len_app, len_app]
    show _ + 1 + 1 ≤ 8
    omega
  · unfold cand at hc
    rw [cps_app, cps_app, List.mem_append, List.mem_append] at hc
    rcases hc with (hc | hc) | hc
    · exact h3 c (cut_mem hc)
    · have : c = 97 + t := by simpa using hc
      omega
    · have : c = 113 := by simpa using (show c ∈ [113] from hc)
      omega
theorem NamesD.snoc {xs : List Str} {m : Nat} {s : Str} (nm : NamesD xs m) (hs : s ∉ xs) (ok : OkS s) (low : IsNm s) : NamesD (xs ++ [s]) (m + 1) := by
  refine ⟨?_, ?_, by simp [nm.len], ?_⟩
  · rw [List.nodup_append]
    refine ⟨nm.nd, by simp, fun a ha b hb => ?_⟩
    rw [List.mem_singleton] at hb
    subst hb
    intro e
    subst e
    exact hs ha
  · intro t ht
    rcases List.mem_append.mp ht with ht | ht
    · exact nm.ok t ht
    · rw [List.mem_singleton.mp ht]; exact ok
  · intro t ht
    rcases List.mem_append.mp ht with ht | ht
    · exact nm.low t ht
    · rw [List.mem_singleton.mp ht]; exact low
/-! ### names are drawn -/
theorem digit_at {p n : Nat} {m : Int} {O0 O L : Oh} {R : DK} {xe : Exn → Oh → Prop} (hm : 0 < m) (hz : m ≤ 4611686018427387904) (h : Pt p n O0 O) (k : ∀ (d : Nat) O1, (d : Int) < m → Pt p n O0 O1 → R (.d (.int d)) (O1 ++ L)) : w__law_digit [.c p, .d (.int m)] (O ++ L) R xe :=
  pt_call (digit_draws hm hz) h fun v O1 ⟨d, e, hd⟩ h1 => by subst e; exact k d O1 hd h1
theorem names_draw {p : Nat} {m : Nat} (hm : m ≤ 20) : Draws p w__law_names [.c p, .d (.int m)] fun v => ∃ xs, v = lS xs ∧ NamesD xs m := by
  intro O R xe hp h
  refine def_start rfl fun n l cl => ?_
  repeat refine Go.h ?_
  refine go_rng (by omega) ?_
  repeat refine Go.h ?_
  refine for_rng (fun k Γ S => ∃ O1 found a b c d e f, Γ = [some (.c p), some (.d (.int m)), some (.d (.str "abcdefghijklmnopqrstuvwxyz")), some (.c (n + 0)), a, b, c, d, e, f] ∧ S = O1 ++ [cS found] ∧ Pt p n O O1 ∧ NamesD found k)
    ⟨O, [], _, _, _, _, _, _, rfl, rfl, Pt.start hp l cl, List.nodup_nil, by simp, rfl, by simp⟩ ?_ ?_
  · rintro Γ S ⟨O1, found, a, b, c, d, e, f, rfl, rfl, pt, nm⟩
    haveI := pt.l
    haveI := pt.c
    repeat refine Go.h ?_
    exact h _ _ ⟨found, rfl, nm⟩ pt.chg
  · rintro k Γ S hk ⟨O1, found, a, b, c, d, e, f, rfl, rfl, pt, nm⟩ C hC
    haveI := pt.l
    haveI := pt.c
    repeat refine Go.h ?_
    refine digit_at (by decide) (by decide) pt fun d0 O2 hd0 pt => ?_
    repeat refine Go.h ?_
    have hi : ∃ m : Nat, atI (([PyData.int 1, .int 2, .int 8] : List PyData).map W.d) (d0 : Nat) = some (.d (.int m)) ∧ 1 ≤ m ∧ m ≤ 8 := by
      have : d0 = 0 ∨ d0 = 1 ∨ d0 = 2 := by omega
      rcases this with rfl | rfl | rfl
      · exact ⟨1, rfl, by decide, by decide⟩
      · exact ⟨2, rfl, by decide, by decide⟩
      · exact ⟨8, rfl, by decide, by decide⟩
    obtain ⟨w, hw, hw1, hw2⟩ := hi
    refine go_ix hw ?_
    repeat refine Go.h ?_
    haveI := pt.l
    haveI := pt.c
    refine digit_at (by omega) (by omega) pt fun d1 O3 hd1 pt => ?_
    haveI := pt.l
    haveI := pt.c
    repeat refine Go.h ?_
    rw [show (1 : Int) + (d1 : Nat) = ((d1 + 1 : Nat) : Int) by omega]
    repeat refine Go.h ?_
    refine go_rng (by omega) ?_
    repeat refine Go.h ?_
    refine lc_rng (fun k acc S => ∃ O4 cs, S = O4 ++ [cS found] ∧ Pt p n O O4 ∧ acc = sD cs ∧ (∀ c ∈ cs, c.length = 1 ∧ PyData.strOk c = true ∧ ∀ x ∈ c.cps.toList, 97 ≤ x ∧ x < 123) ∧ cs.length = k)
      ⟨O3, [], rfl, pt, rfl, by simp, rfl⟩ ?_ ?_
    rotate_left
    · rintro k1 acc S hk1 ⟨O4, cs, rfl, pt, rfl, hcs, hl⟩ C2 N2 hC2 hN2
      haveI := pt.l
      haveI := pt.c
      repeat refine Go.h ?_
      refine digit_at (by decide) (by decide) pt fun d2 O5 hd2 pt => ?_
      repeat refine Go.h ?_
      refine go_letter (by omega) ?_
      refine hC2 _ _ (by simp; omega) ⟨O5, cs ++ [sg (97 + d2)], rfl, pt, by simp, ?_, by simp [hl]⟩
      intro c hc
      rcases List.mem_append.mp hc with hc | hc
      · exact hcs c hc
      · rw [List.mem_singleton.mp hc]; exact ⟨rfl, strOk_sg (by omega), fun x hx => by
          have : x = 97 + d2 := by simpa using hx
          omega⟩
    · rintro acc S ⟨O4, cs, rfl, pt, rfl, hcs, hl⟩
      haveI := pt.l
      haveI := pt.c
      have hj := join_len1 fun c hc => (hcs c hc).1
      have hs := sum_len fun c hc => Nat.le_of_eq (hcs c hc).1
      refine go_join (by rw [show ("" : Str).length = 0 from rfl]; omega) ?_
      have ok : OkS (Txt.join "" cs) := ⟨strOk_join0 fun c hc => (hcs c hc).2.1, by omega⟩
      have low : IsNm (Txt.join "" cs) := ⟨by omega, by omega, low_join fun c hc => (hcs c hc).2.2⟩
      have hj8 : (Txt.join "" cs).length ≤ 8 := by omega
      generalize Txt.join "" cs = name at *
      repeat refine Go.h ?_
      refine dcase (fun hm => ?_) (fun hm => ?_)
      · repeat refine Go.h ?_
        rw [show (m : Int) + 1 = ((m + 1 : Nat) : Int) by omega]
        refine go_rng (by omega) ?_
        rw [rgW_range]
        repeat refine Go.h ?_
        refine lc_all (fun t : Nat => PyData.int t) (fun t => .str (cand (cutS name none (some 6)) t)) trivial (by rw [List.length_range]; omega) (fun t ht C3 hC3 => ?_) ?_
        · have ht : t < m + 1 := List.mem_range.mp ht
          repeat refine Go.h ?_
          refine go_slS (by omega) ?_
          repeat refine Go.h ?_
          refine go_letter (by omega) ?_
          repeat refine Go.h ?_
          have h6 := cut_len6 name
          refine go_addS (by show _ + 1 ≤ _; omega) ?_
          repeat refine Go.h ?_
          refine go_addS (by rw [len_app]; show _ + 1 + 1 ≤ _; omega) ?_
          exact hC3
        repeat refine Go.h ?_
        have e1 : ((List.range (m + 1)).map fun t => PyData.str (cand (cutS name none (some 6)) t)) = sD ((List.range (m + 1)).map (cand (cutS name none (some 6)))) := by unfold sD; rw [List.map_map]; rfl
        rw [e1]
        refine lc_mapD PyData.str (fun s => decide (s ∉ found)) PyData.str trivial (by simp; omega) (fun x _ C3 hC3 => ?_) (fun x _ _ C3 hC3 => ?_) ?_
        · repeat refine Go.h ?_
          exact hC3
        · repeat refine Go.h ?_
          exact hC3
        have hne := one_new (found := found) (cands_nd (cutS name none (some 6)) (m + 1)) (by rw [nm.len]; simp; omega)
        cases hf : ((List.range (m + 1)).map (cand (cutS name none (some 6)))).filter (fun s => decide (s ∉ found)) with
        | nil => exact absurd hf hne
        | cons s0 t0 =>
          have hs0 : s0 ∈ ((List.range (m + 1)).map (cand (cutS name none (some 6)))).filter (fun s => decide (s ∉ found)) := by rw [hf]; exact List.mem_cons_self
          obtain ⟨q1, q2⟩ := List.mem_filter.mp hs0
          obtain ⟨t, ht, rfl⟩ := List.mem_map.mp q1
          have ht : t < m + 1 := List.mem_range.mp ht
          repeat refine Go.h ?_
          refine go_append (by simp; have := nm.len; omega) (str_snoc _ _) ?_
          repeat refine Go.h ?_
          exact hC _ _ ⟨O4, _, _, _, _, _, _, _, rfl, rfl, pt, nm.snoc (of_decide_eq_true q2) (cand_ok ok (by omega)) (cand_low low (by omega))⟩
      · repeat refine Go.h ?_
        refine go_append (by simp; have := nm.len; omega) (str_snoc _ _) ?_
        repeat refine Go.h ?_
        exact hC _ _ ⟨O4, found ++ [name], _, _, _, _, _, _, rfl, rfl, pt, nm.snoc hm ok low⟩
end Dl
namespace Dl
open PySem PySem.Spec PyProof.Rows L2
theorem ixN_nat {n d : Nat} (h : d < n) : ixN n (d : Nat) = some d := by
  unfold ixN
  rw [if_pos (by omega), if_pos (by omega), Int.toNat_natCast]
theorem NamesD.perm {xs ys : List Str} {m : Nat} (h : NamesD xs m) (p : ys.Perm xs) : NamesD ys m := ⟨p.nodup_iff.mpr h.nd, fun s hs => h.ok s (p.mem_iff.mp hs), p.length_eq.trans h.len, fun s hs => h.low s (p.mem_iff.mp hs)⟩
/-- ways that come together again -/
theorem join_st {s : DSt} {f b c : Gm → Oh → Prop} {r : DK} {xe : DX} {Γ : Gm} {O : Oh} (J : Gm → Oh → Prop) (h2 : ∀ C : Gm → Oh → Prop, (∀ Γ' O', J Γ' O' → C Γ' O') → s ⟨C, r, b, c⟩ xe Γ O) (h1 : ∀ Γ' O', J Γ' O' → f Γ' O') : s ⟨f, r, b, c⟩ xe Γ O := h2 f h1
end Dl
namespace Dl
open PySem PySem.Spec PyProof.Rows L2
/-! ### the pot -/
abbrev scr (ns : List Int) : PyData := .dict [(.none, .list (ns.map PyData.int))]
instance {O : Oh} {ns : List Int} : Fz (.d (.dict [(.none, .list (ns.map PyData.int))])) O (ns.map PyData.int) := ⟨rfl, rfl⟩
theorem sp_pot {ns : List Int} {k : Nat} (hk : k < 1000) {O : Oh} {R : DK} {xe : Exn → Oh → Prop} (h : ∀ x y, PotOk x y → R (.c O.length) (O ++ [potC x y])) : w__law_pot [.d (scr ns), .d (.int k)] O R xe := by
  refine def_startC rfl fun n l cl => ?_
  obtain rfl : O.length = n := l.e
  repeat (fail_if_success with_reducible show dIf _ _ _ _ _ _ _); refine Go.h ?_
  refine join_st (fun Γ' S => ∃ x : Int, Γ' = [some (.d (scr ns)), some (.d (.int k)), some (.d (.int x))] ∧ S = O ++ []) ?_ ?_
  · intro C hC
    repeat refine Go.h ?_
    refine dcase (fun z => ?_) (fun z => ?_)
    · simp at z
      repeat refine Go.h ?_
      refine go_ix (d := .int (ns[k]'(by omega))) (atI_map (by simp)) ?_
      repeat refine Go.h ?_
      exact hC _ _ ⟨_, rfl, rfl⟩
    · repeat refine Go.h ?_
      exact hC _ _ ⟨_, rfl, rfl⟩
  · rintro Γ S ⟨x, rfl, rfl⟩
    repeat refine Go.h ?_
    refine ⟨⟨by decide, by decide, by decide⟩, ?_⟩
    repeat refine Go.h ?_
    refine ⟨by decide, ?_⟩
    repeat refine Go.h ?_
    refine ⟨.inl ⟨by decide, by decide⟩, ?_⟩
    repeat refine Go.h ?_
    refine h _ _ ⟨?_, ?_, ?_⟩
    · split <;> omega
    · have : 0 ≤ (if x < 0 then -x else x) % 2147483587 := Int.emod_nonneg _ (by decide)
      omega
    · have : (if x < 0 then -x else x) % 2147483587 < 2147483587 := Int.emod_lt_of_pos _ (by decide)
      omega
/-! ### try -/
def kEx (f : Gm → Oh → Prop) (i : Nat) : Gm → Oh → Prop := fun Γ1 O1 => f (Γ1.set i none) O1
instance {f : Gm → Oh → Prop} {i : Nat} {Γ Γ' : Gm} {O : Oh} [p : Put Γ i none Γ'] : Go (kEx f i Γ O) (f Γ' O) := ⟨fun h => by unfold kEx; rw [p.e]; exact h⟩
theorem eqvAll_refl {n : Nat} (h : ∀ d, shp n d = true → PyData.eqv d d = true) : ∀ ds : List PyData, ds.all (shp n) = true → PyData.eqvAll ds ds = true
  | [], _ => by simp [PyData.eqvAll]
  | d :: r, e => by
    rw [List.all_cons, Bool.and_eq_true] at e
    simp only [PyData.eqvAll, h d e.1, eqvAll_refl h r e.2, Bool.and_self]
theorem eqv_refl : ∀ (n : Nat) (d : PyData), shp n d = true → PyData.eqv d d = true
  | n, .none, _ => rfl
  | n, .bool b, _ => by cases b <;> rfl
  | n, .int i, _ => by rw [eqv_int]; simp
  | n, .str s, _ => by rw [eqv_str]; simp
  | 0, .list ds, h | 0, .tuple ds, h => by cases h
  | n + 1, .list ds, h => by simp only [PyData.eqv]; exact eqvAll_refl (eqv_refl n) ds h
  | n + 1, .tuple ds, h => by simp only [PyData.eqv]; exact eqvAll_refl (eqv_refl n) ds h
  | 0, .dict _, h | _ + 1, .dict _, h => by cases h
theorem go_neSame {d : PyData} {O : Oh} {R : DK} (hs : shp 40 d = true) (h : R (.d (.bool false)) O) : dNe (.d d) (.d d) O R := by
  refine ⟨hs, hs, ?_⟩
  rw [eqv_refl 40 d hs]
  exact h
end Dl
namespace Dl
open PySem PySem.Spec PyProof.Rows L2
/-! ### membership of a text, where something else may stand -/
instance {s : Str} {y : W} {xs : List Str} {O : Oh} {R : DK} [q : SeqS y O xs] : Go (dNiL (.d (.str s)) y O R) (R (.d (.bool (decide (s ∉ xs)))) O) := ⟨fun h => show dIn2 true (.d (.str s)) y O R from go_inS (by rw [if_pos rfl, ← decide_not]; exact h)⟩
instance {s : Str} {y : W} {xs : List Str} {O : Oh} {R : DK} [q : SeqS y O xs] : Go (dInL (.d (.str s)) y O R) (R (.d (.bool (decide (s ∈ xs)))) O) := ⟨fun h => show dIn2 false (.d (.str s)) y O R from go_inS h⟩
theorem go_niOS {s : Str} {xs : List Str} {O : Oh} {R : DK} (h : R (.d (.bool (decide (s ∉ xs)))) O) : dNiO (.d (.str s)) (.d (tS xs)) O R := by
  refine ⟨?_, ?_⟩
  · rw [List.all_eq_true]
    intro d hd
    obtain ⟨t, _, rfl⟩ := List.mem_map.mp hd
    rfl
  · have e : ((sD xs).any fun z => PyData.eqv z (.str s)) = decide (s ∈ xs) := any_sD xs s
    rw [e, ← decide_not]
    exact h
instance {s : Str} {xs : List Str} {O : Oh} {R : DK} : Go (dNiO (.d (.str s)) (.d (tS xs)) O R) (R (.d (.bool (decide (s ∉ xs)))) O) := ⟨go_niOS⟩
end Dl
namespace Dl
open PySem PySem.Spec PyProof.Rows L2
/-! ### the law's own merging -/
theorem sp_boolsAny {ds : List PyData} {bs : List Bool} {O : Oh} {R : DK} [b : BoolsD ds bs] (h : R (.d (.bool (bs.any id))) O) : dAny [.d (.list ds)] O R := by
  unfold dAny; dsimp only; rw [b.e]; exact h
instance {ds : List PyData} {bs : List Bool} {O : Oh} {R : DK} [b : BoolsD ds bs] : Go (dAny [.d (.list ds)] O R) (R (.d (.bool (bs.any id))) O) := ⟨sp_boolsAny⟩
def hd (r : List Str) : Str := r.headD ""
def sizeR (rows : List (List Str)) : Nat := (rows.map List.length).sum
end Dl
namespace Dl
open PySem PySem.Spec PyProof.Rows L2
/-! ### lines -/
/-- the rows of a kind -/
def rowsOf (L : Str → List Str) (own : List Str) : List (List Str) := own.map L ++ [own]
theorem GoodR.size {rs : List (List Str)} (g : GoodR rs) : sizeR rs ≤ 48 := by
  have := g.flat
  rw [List.length_flatten] at this
  exact this
theorem GoodR.names {rs : List (List Str)} (g : GoodR rs) : (namesOf rs).length ≤ sizeR rs := by
  have : (namesOf rs).length ≤ rs.flatten.length := met_len _
  rw [List.length_flatten] at this
  exact this
end Dl
namespace Dl
open PySem PySem.Spec PyProof.Rows L2
/-! ### families -/
structure Kd where
  nm : Str
  own : List Str
  line : List Str
abbrev nms (fam : List Kd) : List Str := fam.map Kd.nm
def kdOf (fam : List Kd) (s : Str) : Option Kd := fam.find? fun k => k.nm == s
def LnF (fam : List Kd) (s : Str) : List Str := match kdOf fam s with
  | some k => k.line
  | none => []
def OwF (fam : List Kd) (s : Str) : List Str := match kdOf fam s with
  | some k => k.own
  | none => []
inductive FamOk : List Kd → Prop
  | nil : FamOk []
  | snoc {fam : List Kd} {k : Kd} {m : List Str} : FamOk fam → k.nm ∉ nms fam → k.own.Nodup → k.own.length ≤ 4 → (∀ s ∈ k.own, s ∈ nms fam) → mergedOf (rowsOf (LnF fam) k.own) = .ok m → k.line = k.nm :: m → FamOk (fam ++ [k])
theorem kd_old {fam : List Kd} {k : Kd} {s : Str} (hs : s ∈ nms fam) : kdOf (fam ++ [k]) s = kdOf fam s := by
  unfold kdOf
  rw [List.find?_append]
  obtain ⟨q, hq, rfl⟩ := List.mem_map.mp hs
  cases h : fam.find? fun k => k.nm == q.nm with
  | some x => rfl
  | none =>
    rw [List.find?_eq_none] at h
    exact absurd (by simp) (h q hq)
theorem kd_new {fam : List Kd} {k : Kd} (hs : k.nm ∉ nms fam) : kdOf (fam ++ [k]) k.nm = some k := by
  unfold kdOf
  rw [List.find?_append]
  have : fam.find? (fun q => q.nm == k.nm) = none := by
    rw [List.find?_eq_none]
    intro q hq e
    exact hs (by rw [← eq_of_beq e]; exact List.mem_map.mpr ⟨q, hq, rfl⟩)
  rw [this]
  simp
theorem Ln_old {fam : List Kd} {k : Kd} {s : Str} (hs : s ∈ nms fam) : LnF (fam ++ [k]) s = LnF fam s := by unfold LnF; rw [kd_old hs]
theorem Ow_old {fam : List Kd} {k : Kd} {s : Str} (hs : s ∈ nms fam) : OwF (fam ++ [k]) s = OwF fam s := by unfold OwF; rw [kd_old hs]
theorem Ln_new {fam : List Kd} {k : Kd} (hs : k.nm ∉ nms fam) : LnF (fam ++ [k]) k.nm = k.line := by unfold LnF; rw [kd_new hs]
theorem Ow_new {fam : List Kd} {k : Kd} (hs : k.nm ∉ nms fam) : OwF (fam ++ [k]) k.nm = k.own := by unfold OwF; rw [kd_new hs]
theorem FamOk.nd {fam : List Kd} (h : FamOk fam) : (nms fam).Nodup := by
  induction h with
  | nil => exact List.nodup_nil
  | snoc h0 h1 _ _ _ _ _ ih =>
    unfold nms at *
    rw [List.map_append, List.nodup_append]
    refine ⟨ih, by simp, fun a ha b hb => ?_⟩
    simp at hb
    subst hb
    intro e
    subst e
    exact h1 ha
/-- a line: unlike names of the family -/
theorem FamOk.line {fam : List Kd} (h : FamOk fam) : ∀ s ∈ nms fam, (LnF fam s).Nodup ∧ ∀ t ∈ LnF fam s, t ∈ nms fam := by
  induction h with
  | nil => intro s hs; cases hs
  | @snoc fam k m h0 h1 h2 h3 h4 h5 h6 ih =>
    intro s hs
    have hs : s ∈ nms fam ∨ s = k.nm := by
      unfold nms at hs ⊢
      rw [List.map_append] at hs
      rcases List.mem_append.mp hs with h | h
      · exact .inl h
      · exact .inr (by simpa using h)
    have up : ∀ t, t ∈ nms fam → t ∈ nms (fam ++ [k]) := fun t ht => by unfold nms at *; rw [List.map_append]; exact List.mem_append_left _ ht
    rcases hs with hs | rfl
    · rw [Ln_old hs]
      exact ⟨(ih s hs).1, fun t ht => up t ((ih s hs).2 t ht)⟩
    · rw [Ln_new h1, h6]
      have hr : ∀ r ∈ rowsOf (LnF fam) k.own, r.Nodup ∧ ∀ t ∈ r, t ∈ nms fam := by
        intro r hr
        unfold rowsOf at hr
        rcases List.mem_append.mp hr with hr | hr
        · obtain ⟨q, hq, rfl⟩ := List.mem_map.mp hr
          exact ih q (h4 q hq)
        · rw [List.mem_singleton.mp hr]; exact ⟨h2, h4⟩
      have mo := merged_ok (rs := rowsOf (LnF fam) k.own) fun r hrr => (hr r hrr).1
      rw [h5] at mo
      have hm : ∀ t ∈ m, t ∈ nms fam := fun t ht => by
        obtain ⟨r, hrr, htr⟩ := List.mem_flatten.mp (met_strs (mo.perm.mem_iff.mp ht))
        exact (hr r hrr).2 t htr
      refine ⟨List.nodup_cons.mpr ⟨fun z => h1 (hm _ z), mo.nd⟩, fun t ht => ?_⟩
      rcases List.mem_cons.mp ht with rfl | ht
      · unfold nms; rw [List.map_append]; simp
      · exact up t (hm t ht)
end Dl
namespace Dl
open PySem PySem.Spec PyProof.Rows L2
/-! #### frozen -/
def kFrz (R : DK) : DK := fun x O1 => match x with
  | .c j => (match O1[j]? with
    | some (.dic kvs) => (match frzD kvs with
      | some ds => (kvs.map (·.1)).all keyOk = true ∧ R (.d (.dict ds)) (O1.set j .gone)
      | none => False)
    | _ => False)
  | _ => False
instance {we : DEx} {Γ : Gm} {O : Oh} {R : DK} {xe : DX} : Go (dFrz we Γ O R xe) (we Γ O (kFrz R) xe) := ⟨fun h => h⟩
/-! #### pairs in order -/
end Dl
namespace Dl
open PySem PySem.Spec PyProof.Rows L2
theorem rowsOf_congr {L M : Str → List Str} {own : List Str} (h : ∀ s ∈ own, L s = M s) : rowsOf L own = rowsOf M own := by
  unfold rowsOf
  rw [List.map_congr_left h]
/-- how each kind was made -/
theorem FamOk.made {fam : List Kd} (h : FamOk fam) : ∀ s ∈ nms fam, (OwF fam s).Nodup ∧ (OwF fam s).length ≤ 4 ∧ (∀ t ∈ OwF fam s, t ∈ nms fam) ∧ ∃ m, mergedOf (rowsOf (LnF fam) (OwF fam s)) = .ok m ∧ LnF fam s = s :: m := by
  induction h with
  | nil => intro s hs; cases hs
  | @snoc fam k m h0 h1 h2 h3 h4 h5 h6 ih =>
    intro s hs
    have up : ∀ t, t ∈ nms fam → t ∈ nms (fam ++ [k]) := fun t ht => by unfold nms at *; rw [List.map_append]; exact List.mem_append_left _ ht
    have hs : s ∈ nms fam ∨ s = k.nm := by
      unfold nms at hs ⊢
      rw [List.map_append] at hs
      rcases List.mem_append.mp hs with h | h
      · exact .inl h
      · exact .inr (by simpa using h)
    rcases hs with hs | rfl
    · obtain ⟨a1, a2, a3, m', a4, a5⟩ := ih s hs
      rw [Ow_old hs, Ln_old hs]
      refine ⟨a1, a2, fun t ht => up t (a3 t ht), m', ?_, a5⟩
      rw [rowsOf_congr fun t ht => Ln_old (a3 t ht)]
      exact a4
    · rw [Ow_new h1, Ln_new h1]
      refine ⟨h2, h3, fun t ht => up t (h4 t ht), m, ?_, h6⟩
      rw [rowsOf_congr fun t ht => Ln_old (h4 t ht)]
      exact h5
/-! ### all lines, turn by turn -/
end Dl
namespace Dl
open PySem PySem.Spec PyProof.Rows L2
/-! #### cells that are made at once -/
def kLcC (t : Tg) (tt : DT) (we : DEx) (Γ : Gm) (R : DK) : List W → (Oh → Prop) → Oh → Prop := fun xs ok O1 => lcGo ok t tt we Γ (fun acc O2 => R (.c O2.length) (O2 ++ [.lst (acc.map W.d)])) xs [] O1
instance {R : DK} {Γ Γ' : Gm} {O : Oh} {xe : DX} {w : DI} {t : Tg} {tt : DT} {we : DEx} {own : List Nat} [z : Wipe Γ own Γ'] : Go (dLcC w t tt we own Γ O R xe) (w Γ O (kLcC t tt we Γ' R) xe) := ⟨fun h => by unfold dLcC; rw [z.e]; exact h⟩
instance {R : DK} {Γ : Gm} {O : Oh} {t : Tg} {tt : DT} {we : DEx} {xs : List W} {ok : Oh → Prop} : Go (kLcC t tt we Γ R xs ok O) (lcGo ok t tt we Γ (fun acc O2 => R (.c O2.length) (O2 ++ [.lst (acc.map W.d)])) xs [] O) := ⟨fun h => h⟩
/-! #### items of a dict -/
def kItemsI (S : List W → (Oh → Prop) → Oh → Prop) : DK := fun r O1 => match r with
  | .d (.dict kvs) => (keysD kvs).isSome = true ∧ S (kvs.map fun p => W.p [p.1, p.2]) (fun _ => True) O1
  | _ => False
def kKeysI (S : List W → (Oh → Prop) → Oh → Prop) : DK := fun r O1 => match r with
  | .d (.dict kvs) => (keysD kvs).isSome = true ∧ S (kvs.map fun p => W.d p.1) (fun _ => True) O1
  | _ => False
instance {w : DEx} {Γ : Gm} {O : Oh} {S : List W → (Oh → Prop) → Oh → Prop} {xe : DX} : Go (dItemsI w Γ O S xe) (w Γ O (kItemsI S) xe) := ⟨fun h => h⟩
instance {w : DEx} {Γ : Gm} {O : Oh} {S : List W → (Oh → Prop) → Oh → Prop} {xe : DX} : Go (dKeysI w Γ O S xe) (w Γ O (kKeysI S) xe) := ⟨fun h => h⟩
instance {f : Str → PyData} {σ : List Str} {O : Oh} {S : List W → (Oh → Prop) → Oh → Prop} : Go (kItemsI S (.d (.dict (σ.map fun s => (PyData.str s, f s)))) O) (S (σ.map fun s => W.p [.str s, f s]) (fun _ => True) O) := ⟨fun h => by
  refine ⟨by rw [keysD_kvD]; rfl, ?_⟩
  rw [List.map_map]; exact h⟩
instance {f : Str → PyData} {σ : List Str} {O : Oh} {S : List W → (Oh → Prop) → Oh → Prop} : Go (kKeysI S (.d (.dict (σ.map fun s => (PyData.str s, f s)))) O) (S ((σ.map PyData.str).map W.d) (fun _ => True) O) := ⟨fun h => by
  refine ⟨by rw [keysD_kvD]; rfl, ?_⟩
  rw [List.map_map]
  rw [List.map_map] at h
  exact h⟩
end Dl
namespace Dl
open PySem PySem.Spec PyProof.Rows L2
/-! ### forebears -/
inductive Reach (fam : List Kd) (k : Str) : Str → Prop
  | refl : Reach fam k k
  | step {s t : Str} : Reach fam k s → t ∈ OwF fam s → Reach fam k t
theorem Reach.trans {fam : List Kd} {a b c : Str} (h1 : Reach fam a b) (h2 : Reach fam b c) : Reach fam a c := by
  induction h2 with
  | refl => exact h1
  | step _ h ih => exact ih.step h
/-- what a line has behind its kind: the parents, and what their lines have -/
theorem mem_line {fam : List Kd} (h : FamOk fam) (hr : ∀ s ∈ nms fam, (LnF fam s).Nodup) {k : Str} (hk : k ∈ nms fam) (t : Str) : t ∈ LnF fam k ↔ t = k ∨ t ∈ OwF fam k ∨ ∃ q ∈ OwF fam k, t ∈ LnF fam q := by
  obtain ⟨a1, a2, a3, m, a4, a5⟩ := h.made k hk
  have hnd : ∀ r ∈ rowsOf (LnF fam) (OwF fam k), r.Nodup := by
    intro r hr'
    unfold rowsOf at hr'
    rcases List.mem_append.mp hr' with hr' | hr'
    · obtain ⟨q, hq, rfl⟩ := List.mem_map.mp hr'
      exact hr q (a3 q hq)
    · rw [List.mem_singleton.mp hr']; exact a1
  have mo := merged_ok hnd
  rw [a4] at mo
  have hm : t ∈ m ↔ t ∈ OwF fam k ∨ ∃ q ∈ OwF fam k, t ∈ LnF fam q := by
    constructor
    · intro ht
      obtain ⟨r, hrr, htr⟩ := List.mem_flatten.mp (met_strs (mo.perm.mem_iff.mp ht))
      unfold rowsOf at hrr
      rcases List.mem_append.mp hrr with hrr | hrr
      · obtain ⟨q, hq, rfl⟩ := List.mem_map.mp hrr
        exact .inr ⟨q, hq, htr⟩
      · rw [List.mem_singleton.mp hrr] at htr
        exact .inl htr
    · intro ht
      rcases ht with ht | ⟨q, hq, ht⟩
      · exact mo.mem (r := OwF fam k) (by unfold rowsOf; simp) ht
      · exact mo.mem (r := LnF fam q) (by unfold rowsOf; exact List.mem_append_left _ (List.mem_map.mpr ⟨q, hq, rfl⟩)) ht
  rw [a5, List.mem_cons, hm]
theorem FamOk.lnd {fam : List Kd} (h : FamOk fam) : ∀ s ∈ nms fam, (LnF fam s).Nodup := fun s hs => (h.line s hs).1
theorem self_line {fam : List Kd} (h : FamOk fam) {k : Str} (hk : k ∈ nms fam) : k ∈ LnF fam k := (mem_line h h.lnd hk k).mpr (.inl rfl)
end Dl
namespace Dl
open PySem PySem.Spec PyProof.Rows L2
/-! ### the way from a kind to one that it comes from -/
theorem nd_snoc {xs : List Str} {s : Str} (h : xs.Nodup) (hs : s ∉ xs) : (xs ++ [s]).Nodup := by
  rw [List.nodup_append]
  refine ⟨h, by simp, fun a ha b hb => ?_⟩
  rw [List.mem_singleton] at hb
  subst hb
  exact fun e => hs (e ▸ ha)
end Dl
namespace Dl
open PySem PySem.Spec PyProof.Rows L2
/-! ### more walks -/
def kZip (S : List W → (Oh → Prop) → Oh → Prop) : List W → Oh → Prop := fun xs O1 => match xs with
  | [.d (.list ds), .d (.list es)] => S (zipW ds es) (fun _ => True) O1
  | [.d (.tuple ds), .d (.tuple es)] => S (zipW ds es) (fun _ => True) O1
  | _ => False
instance {ws : DA} {Γ : Gm} {O : Oh} {S : List W → (Oh → Prop) → Oh → Prop} {xe : DX} : Go (dZip ws Γ O S xe) (ws Γ O (kZip S) xe) := ⟨fun h => h⟩
instance {O : Oh} {S : List W → (Oh → Prop) → Oh → Prop} {ds es : List PyData} : Go (kZip S [.d (.tuple ds), .d (.tuple es)] O) (S (zipW ds es) (fun _ => True) O) := ⟨fun h => h⟩
instance {O : Oh} {S : List W → (Oh → Prop) → Oh → Prop} {ds es : List PyData} : Go (kZip S [.d (.list ds), .d (.list es)] O) (S (zipW ds es) (fun _ => True) O) := ⟨fun h => h⟩
theorem draw_at {f : DFn} {args : List W} {Q : PyData → Prop} {B : Oh} {x y : Int} {R : DK} {xe : Exn → Oh → Prop} (d : Draws B.length f args Q) (ok : PotOk x y) (k : ∀ v x' y', Q v → PotOk x' y' → R (.d v) (B ++ [potC x' y'])) : f args (B ++ [potC x y]) R xe := by
  refine d _ _ _ ⟨x, y, by rw [List.getElem?_append_right (Nat.le_refl _), Nat.sub_self]; rfl, ok⟩ ?_
  rintro v S hq ⟨_, x2, y2, rfl, ok2⟩
  rw [List.set_append_right _ _ (Nat.le_refl _), Nat.sub_self]
  exact k v x2 y2 hq ok2
end Dl
namespace Dl
open PySem PySem.Spec PyProof.Rows L2
/-! ### lines keep lines -/
theorem filter_sub {xs a b : List Str} (h1 : xs.filter (fun s => decide (s ∈ a)) = a) (hs : ∀ s ∈ b, s ∈ a) (h2 : a.filter (fun s => decide (s ∈ b)) = b) : xs.filter (fun s => decide (s ∈ b)) = b := by
  rw [← h1, List.filter_filter] at h2
  have e : xs.filter (fun s => decide (s ∈ b)) = xs.filter fun s => decide (s ∈ b) && decide (s ∈ a) := List.filter_congr fun s _ => by
    by_cases z : s ∈ b
    · rw [decide_eq_true z, decide_eq_true (hs s z)]; rfl
    · rw [decide_eq_false z]; rfl
  rw [e]; exact h2
theorem FamOk.keep {fam : List Kd} (h : FamOk fam) : ∀ k ∈ nms fam, ∀ q ∈ LnF fam k,
    (LnF fam k).filter (fun s => decide (s ∈ LnF fam q)) = LnF fam q ∧ (LnF fam k).filter (fun s => decide (s ∈ OwF fam q)) = OwF fam q ∧ (q ≠ k → (LnF fam q).length < (LnF fam k).length) := by
  induction h with
  | nil => intro s hs; cases hs
  | @snoc fam k m h0 h1 h2 h3 h4 h5 h6 ih =>
    intro s hs q hq
    have hs : s ∈ nms fam ∨ s = k.nm := by
      unfold nms at hs ⊢
      rw [List.map_append] at hs
      rcases List.mem_append.mp hs with h | h
      · exact .inl h
      · exact .inr (by simpa using h)
    rcases hs with hs | rfl
    · rw [Ln_old hs] at hq ⊢
      have hqn := (h0.line s hs).2 q hq
      rw [Ln_old hqn, Ow_old hqn]
      exact ih s hs q hq
    · rw [Ln_new h1, h6] at hq ⊢
      have hr : ∀ r ∈ rowsOf (LnF fam) k.own, r.Nodup := by
        intro r hr
        unfold rowsOf at hr
        rcases List.mem_append.mp hr with hr | hr
        · obtain ⟨p, hp, rfl⟩ := List.mem_map.mp hr
          exact (h0.line p (h4 p hp)).1
        · rw [List.mem_singleton.mp hr]; exact h2
      have mo := merged_ok hr
      rw [h5] at mo
      have kown : m.filter (fun s => decide (s ∈ k.own)) = k.own := mo.keep _ (by unfold rowsOf; simp)
      have kline : ∀ p ∈ k.own, m.filter (fun s => decide (s ∈ LnF fam p)) = LnF fam p := fun p hp => mo.keep _ (by unfold rowsOf; exact List.mem_append_left _ (List.mem_map.mpr ⟨p, hp, rfl⟩))
      have hkn : k.nm ∉ m := fun z => by
        obtain ⟨r, hrr, htr⟩ := List.mem_flatten.mp (met_strs (mo.perm.mem_iff.mp z))
        unfold rowsOf at hrr
        rcases List.mem_append.mp hrr with hrr | hrr
        · obtain ⟨p, hp, rfl⟩ := List.mem_map.mp hrr
          exact h1 ((h0.line p (h4 p hp)).2 _ htr)
        · rw [List.mem_singleton.mp hrr] at htr; exact h1 (h4 _ htr)
      rcases List.mem_cons.mp hq with rfl | hq
      · rw [Ln_new h1, Ow_new h1, h6]
        refine ⟨List.filter_eq_self.mpr fun a ha => decide_eq_true ha, ?_, fun z => absurd rfl z⟩
        rw [List.filter_cons_of_neg (by simpa using fun z => h1 (h4 _ z))]
        exact kown
      · obtain ⟨p, hp, hqp⟩ : ∃ p ∈ k.own, q ∈ LnF fam p := by
          obtain ⟨r, hrr, htr⟩ := List.mem_flatten.mp (met_strs (mo.perm.mem_iff.mp hq))
          unfold rowsOf at hrr
          rcases List.mem_append.mp hrr with hrr | hrr
          · obtain ⟨p, hp, rfl⟩ := List.mem_map.mp hrr
            exact ⟨p, hp, htr⟩
          · rw [List.mem_singleton.mp hrr] at htr
            exact ⟨q, htr, self_line h0 (h4 q htr)⟩
        have hpn := h4 p hp
        have hqn := (h0.line p hpn).2 q hqp
        rw [Ln_old hqn, Ow_old hqn]
        obtain ⟨a1, a2, a3⟩ := ih p hpn q hqp
        have hsub : ∀ s ∈ LnF fam q, s ∈ LnF fam p := fun s hs => by
          rw [← a1] at hs
          exact (List.mem_filter.mp hs).1
        have hsub2 : ∀ s ∈ OwF fam q, s ∈ LnF fam p := fun s hs => by
          rw [← a2] at hs
          exact (List.mem_filter.mp hs).1
        have e1 := filter_sub (kline p hp) hsub a1
        have e2 := filter_sub (kline p hp) hsub2 a2
        have n1 : k.nm ∉ LnF fam q := fun z => h1 ((h0.line q hqn).2 _ z)
        have n2 : k.nm ∉ OwF fam q := fun z => h1 ((h0.line p hpn).2 _ (hsub2 _ z))
        refine ⟨?_, ?_, fun _ => ?_⟩
        · rw [List.filter_cons_of_neg (by simpa using n1)]; exact e1
        · rw [List.filter_cons_of_neg (by simpa using n2)]; exact e2
        · have := List.length_filter_le (fun s => decide (s ∈ LnF fam q)) m
          rw [e1] at this
          simp; omega
end Dl
namespace Dl
open PySem PySem.Spec PyProof.Rows L2
/-! ### kinds changed -/
/-- one kind's parents otherwise -/
def chg (fam : List Kd) (k : Str) (own : List Str) : List Kd := fam.map fun q => if q.nm = k then { q with own := own } else q
theorem chg_nms (fam : List Kd) (k : Str) (own : List Str) : nms (chg fam k own) = nms fam := by
  unfold nms chg
  rw [List.map_map]
  refine List.map_congr_left fun q _ => ?_
  show (if q.nm = k then { q with own := own } else q).nm = q.nm
  split <;> rfl
theorem chg_kd (fam : List Kd) (k : Str) (own : List Str) (s : Str) : kdOf (chg fam k own) s = (kdOf fam s).map fun q => if q.nm = k then { q with own := own } else q := by
  unfold kdOf chg
  induction fam with
  | nil => rfl
  | cons q r ih =>
    rw [List.map_cons, List.find?_cons, List.find?_cons]
    have e : (if q.nm = k then { q with own := own } else q).nm = q.nm := by split <;> rfl
    rw [e]
    cases q.nm == s with
    | true => rfl
    | false => exact ih
theorem chg_Ln (fam : List Kd) (k : Str) (own : List Str) (s : Str) : LnF (chg fam k own) s = LnF fam s := by
  unfold LnF
  rw [chg_kd]
  cases kdOf fam s with
  | none => rfl
  | some q =>
    show (if q.nm = k then { q with own := own } else q).line = q.line
    split <;> rfl
/-- .. a family again, with the lines that it had -/
theorem FamOk.chg {fam : List Kd} (h : FamOk fam) {k : Str} {own m : List Str} : ∀ {pre post : List Kd} {q : Kd}, fam = pre ++ q :: post → q.nm = k → own.Nodup → own.length ≤ 4 → (∀ s ∈ own, s ∈ nms pre) → mergedOf (rowsOf (LnF fam) own) = .ok m → LnF fam k = k :: m → FamOk (chg fam k own) := by
  induction h with
  | nil => intro pre post q e; simp at e
  | @snoc fam z m' h0 h1 h2 h3 h4 h5 h6 ih =>
    intro pre post q e hq nd l4 hpre hm hl
    rcases List.eq_nil_or_concat post with rfl | ⟨post', b, rfl⟩
    · obtain ⟨rfl, e3⟩ := List.append_inj' e rfl
      injection e3 with e3 _
      subst e3
      have e4 : Dl.chg (fam ++ [z]) k own = fam ++ [{ z with own := own }] := by
        unfold Dl.chg
        rw [List.map_append, List.map_cons, List.map_nil, if_pos hq]
        congr 1
        refine (List.map_congr_left fun x hx => ?_).trans (List.map_id _)
        rw [if_neg]
        · rfl
        · intro e
          exact h1 (by rw [hq, ← e]; exact List.mem_map.mpr ⟨x, hx, rfl⟩)
      rw [e4]
      rw [← hq, Ln_new h1] at hl
      refine .snoc (m := m) h0 h1 nd l4 hpre ?_ (by rw [hq] at hl; rw [hq]; exact hl)
      rw [← hm]
      exact congrArg mergedOf (rowsOf_congr fun s hs => (Ln_old (hpre s hs)).symm)
    · have e1 : fam ++ [z] = (pre ++ q :: post') ++ [b] := by rw [e]; simp
      have e2 := (List.append_inj' e1 rfl).1
      have hk : k ∈ nms fam := by rw [e2, ← hq]; unfold nms; simp
      have hzk : z.nm ≠ k := fun c => h1 (c ▸ hk)
      have hpf : ∀ s ∈ own, s ∈ nms fam := fun s hs => by
        have := hpre s hs
        rw [e2]
        unfold nms at *
        rw [List.map_append]
        exact List.mem_append_left _ this
      have hm' : mergedOf (rowsOf (LnF fam) own) = .ok m := by
        rw [← hm]
        exact congrArg mergedOf (rowsOf_congr fun s hs => (Ln_old (hpf s hs)).symm)
      rw [Ln_old hk] at hl
      have r := ih e2 hq nd l4 hpre hm' hl
      have e4 : Dl.chg (fam ++ [z]) k own = Dl.chg fam k own ++ [z] := by
        unfold Dl.chg
        rw [List.map_append, List.map_cons, List.map_nil, if_neg hzk]
      rw [e4]
      refine .snoc (m := m') r (by rw [chg_nms]; exact h1) h2 h3 (fun s hs => by rw [chg_nms]; exact h4 s hs) ?_ h6
      rw [← h5]
      exact congrArg mergedOf (rowsOf_congr fun s hs => chg_Ln _ _ _ _)
end Dl
namespace Dl
open PySem PySem.Spec PyProof.Rows L2
def w_is_name : DFn := dDef 2 1 (
  (dSeq (dIf (dOr (dNot (dB (dIsi "str" (dVar 0)))) (dNot (dB (dChain dLe dLe (dC (.int 1)) (dCB dLen (dCons (dVar 0) dNil)) (dC (.int 8))))))
   (dRet (dC (.bool false)))
   dNext)
  (dRet (dCB dAll (dCons (dLc (dStrI (dVar 0)) (.nm 1) dYes (dOp (dIn2 false) (dVar 1) (dC (.str "abcdefghijklmnopqrstuvwxyz"))) [1]) dNil)))))
/-! ### a family is told as one -/
def kSortSet (R : DK) : DK := fun x O1 => match asL x O1 with
  | some ws => (match datas ws with
    | some ds => (match strsD ds with
      | some ys => ys.length ≤ 1000 ∧ (met ys).length < 64 ∧ R (.d (.list ((srtS (met ys)).map PyData.str))) O1
      | none => False)
    | none => False)
  | none => False
instance {R : DK} {Γ : Gm} {O : Oh} {xe : DX} {w : DEx} : Go (dSortSet w Γ O R xe) (w Γ O (kSortSet R) xe) := ⟨fun h => h⟩
def kStrI (S : List W → (Oh → Prop) → Oh → Prop) : DK := fun r O1 => match r with
  | .d (.str s) => S (((chS s).map PyData.str).map W.d) (fun _ => True) O1
  | _ => False
instance {S : List W → (Oh → Prop) → Oh → Prop} {Γ : Gm} {O : Oh} {xe : DX} {w : DEx} : Go (dStrI w Γ O S xe) (w Γ O (kStrI S) xe) := ⟨fun h => h⟩
instance {S : List W → (Oh → Prop) → Oh → Prop} {O : Oh} {s : Str} : Go (kStrI S (.d (.str s)) O) (S (((chS s).map PyData.str).map W.d) (fun _ => True) O) := ⟨fun h => h⟩
theorem go_inStr {neg : Bool} {a b : Str} {O : Oh} {R : DK} (h : R (.d (.bool (if neg then !strIn a b else strIn a b))) O) : dIn2 neg (.d (.str a)) (.d (.str b)) O R := h
theorem go_lenS {s : Str} {O : Oh} {R : DK} (hz : s.length ≤ 1000000) (h : R (.d (.int (s.length : Nat))) O) : dLen [.d (.str s)] O R := ⟨hz, h⟩
end Dl
namespace Dl
open PySem PySem.Spec PyProof.Rows L2
def w__law_number : DFn := dDef 3 1 (
  (dSeq (dAsg (dOp dSub (dCall0 w__law_digit (dCons (dVar 0) (dCons (dC (.int 41)) dNil))) (dC (.int 20))) (.nm 1))
  (dSeq (dAsg (dOp dAdd (dOp dSub (dCall0 w__law_digit (dCons (dVar 0) (dCons (dOp dSub (dOp dMul (dC (.int 2)) (dOp dPow (dC (.int 10)) (dC (.int 18)))) (dC (.int 1))) dNil))) (dOp dPow (dC (.int 10)) (dC (.int 18)))) (dC (.int 1))) (.nm 2))
  (dRet (dOp dIx2 (dLst (dCons (dVar 1) (dCons (dVar 1) (dCons (dC (.int 0)) (dCons (dVar 2) dNil))))) (dCall0 w__law_digit (dCons (dVar 0) (dCons (dC (.int 4)) dNil))))))))
def w__law_step : DFn := dDef 5 3 (
  (dSeq (dAsg (dCall0 w__law_digit (dCons (dVar 0) (dCons (dC (.int 6)) dNil))) (.nm 3))
  (dSeq (dIf (dB (dOp dEq (dVar 3) (dC (.int 0))))
   (dRet (dTup (dCons (dC (.str "add")) (dCons (dCall0 w__law_number (dCons (dVar 0) dNil)) dNil))))
   dNext)
  (dSeq (dIf (dB (dOp dEq (dVar 3) (dC (.int 1))))
   (dRet (dTup (dCons (dC (.str "times")) (dCons (dOp dSub (dCall0 w__law_digit (dCons (dVar 0) (dCons (dC (.int 19)) dNil))) (dC (.int 9))) dNil))))
   dNext)
  (dSeq (dIf (dB (dOp dLt2 (dVar 3) (dC (.int 4))))
   (dRet (dTup (dCons (dC (.str "onward")) dNil)))
   dNext)
  (dSeq (dAsg (dSlice (dVar 1) (dO1 (dOp dAdd (dVar 2) (dC (.int 1)))) dO0) (.nm 4))
  (dSeq (dIf (dOr (dB (dOp dEq (dVar 4) (dLst dNil))) (dB (dOp dEq (dCall0 w__law_digit (dCons (dVar 0) (dCons (dC (.int 4)) dNil))) (dC (.int 0)))))
   (dAsg (dVar 1) (.nm 4))
   dNext)
  (dRet (dTup (dCons (dC (.str "ask")) (dCons (dOp dIx2 (dVar 4) (dCall0 w__law_digit (dCons (dVar 0) (dCons (dCB dLen (dCons (dVar 4) dNil)) dNil)))) dNil)))))))))))
def w__law_entry : DFn := dDef 6 3 (
  (dSeq (dAsg (dCall0 w__law_digit (dCons (dVar 0) (dCons (dC (.int 5)) dNil))) (.nm 3))
  (dSeq (dIf (dB (dOp dEq (dVar 3) (dC (.int 0))))
   (dRet (dTup (dCons (dC (.str "plain")) (dCons (dCall0 w__law_number (dCons (dVar 0) dNil)) dNil))))
   dNext)
  (dSeq (dIf (dB (dOp dEq (dVar 3) (dC (.int 1))))
   (dRet (dTup (dCons (dC (.str "ahead")) (dCons (dOp dIx2 (dVar 1) (dOp dMod (dOp dAdd (dOp dAdd (dVar 2) (dC (.int 1))) (dCall0 w__law_digit (dCons (dVar 0) (dCons (dCB dLen (dCons (dVar 1) dNil)) dNil)))) (dCB dLen (dCons (dVar 1) dNil)))) (dCons (dCall0 w__law_number (dCons (dVar 0) dNil)) dNil)))))
   dNext)
  (dSeq (dAsg (dCB dTupOf (dCons (dLc (dRng1 (dCons (dCall0 w__law_digit (dCons (dVar 0) (dCons (dC (.int 5)) dNil))) dNil)) (.nm 5) dYes (dCall0 w__law_step (dCons (dVar 0) (dCons (dVar 1) (dCons (dVar 2) dNil)))) [5]) dNil)) (.nm 4))
  (dRet (dTup (dCons (dOp dIx2 (dLst (dCons (dC (.str "behind")) (dCons (dC (.str "behind")) (dCons (dC (.str "shut")) dNil)))) (dOp dSub (dVar 3) (dC (.int 2)))) (dCons (dVar 4) dNil)))))))))
end Dl
namespace Dl
open PySem PySem.Spec PyProof.Rows L2
/-! ### entries, drawn -/
/-! #### data that stays -/
def EntOk (e : PyData) : Prop := ∃ es, e = .tuple es ∧ shp 4 e = true
theorem at_mem {xs : List Str} {d : Nat} (h : d < xs.length) : ∃ s ∈ xs, atI ((sD xs).map W.d) (d : Nat) = some (.d (.str s)) := ⟨xs[d], List.getElem_mem h, atI_map (by simp [h])⟩
end Dl
namespace Dl
open PySem PySem.Spec PyProof.Rows L2
/-! ### books -/
abbrev Bk := List (Str × Str × PyData)
abbrev isB (k n : Str) (r : Str × Str × PyData) : Bool := decide (r.1 = k ∧ r.2.1 = n)
abbrev tb (r : Str × Str × PyData) : List Key × W := ([.inr r.1, .inr r.2.1], .d r.2.2)
def bkC (b : Bk) : List (List Key × W) := b.map tb
def bget (b : Bk) (k n : Str) : Option PyData := (b.find? (isB k n)).map (·.2.2)
def bput (b : Bk) (k n : Str) (e : PyData) : Bk := if (b.any (isB k n)) = true then b.map (fun r => if isB k n r = true then (r.1, r.2.1, e) else r) else b ++ [(k, n, e)]
abbrev kyB (k n : Str) : List Key := [.inr k, .inr n]
theorem ky_dec (r : Str × Str × PyData) (k n : Str) : decide ((tb r).1 = kyB k n) = isB k n r := by
  refine decide_eq_decide.mpr ?_
  simp [tb, kyB]
theorem valW_bk (b : Bk) (k n : Str) : valW (bkC b) (kyB k n) = (bget b k n).map W.d := by
  unfold valW bkC bget
  rw [List.find?_map]
  have : (fun kv : List Key × W => decide (kv.1 = kyB k n)) ∘ tb = isB k n := funext fun r => ky_dec r k n
  rw [this]
  cases List.find? (isB k n) b <;> rfl
structure BkOk (ks xs : List Str) (b : Bk) : Prop where
  nd : (b.map fun r => (r.1, r.2.1)).Nodup
  inK : ∀ r ∈ b, r.1 ∈ ks
  inN : ∀ r ∈ b, r.2.1 ∈ xs
  ent : ∀ r ∈ b, EntOk r.2.2
theorem BkOk.nil {ks xs : List Str} : BkOk ks xs [] := ⟨List.nodup_nil, by simp, by simp, by simp⟩
theorem isB_iff {k n : Str} {r : Str × Str × PyData} : isB k n r = true ↔ r.1 = k ∧ r.2.1 = n := decide_eq_true_iff
theorem BkOk.put {ks xs : List Str} {b : Bk} {k n : Str} {e : PyData} (h : BkOk ks xs b) (hk : k ∈ ks) (hn : n ∈ xs) (he : EntOk e) : BkOk ks xs (bput b k n e) := by
  unfold bput
  split
  · have ee : (b.map fun r => if isB k n r = true then (r.1, r.2.1, e) else r).map (fun r => (r.1, r.2.1)) = b.map fun r => (r.1, r.2.1) := by
      rw [List.map_map]
      refine List.map_congr_left fun r hr => ?_
      show ((if isB k n r = true then (r.1, r.2.1, e) else r).1, (if isB k n r = true then (r.1, r.2.1, e) else r).2.1) = _
      split <;> rfl
    refine ⟨by rw [ee]; exact h.nd, fun r hr => ?_, fun r hr => ?_, fun r hr => ?_⟩ <;> obtain ⟨q, hq, rfl⟩ := List.mem_map.mp hr <;> split
    · exact h.inK q hq
    · exact h.inK q hq
    · exact h.inN q hq
    · exact h.inN q hq
    · exact he
    · exact h.ent q hq
  · next z =>
    refine ⟨?_, fun r hr => ?_, fun r hr => ?_, fun r hr => ?_⟩
    · rw [List.map_append, List.nodup_append]
      refine ⟨h.nd, by simp, fun x hx y hy => ?_⟩
      obtain ⟨q, hq, rfl⟩ := List.mem_map.mp hx
      have : y = (k, n) := by simpa using hy
      subst this
      intro e2
      injection e2 with e3 e4
      exact z (List.any_eq_true.mpr ⟨q, hq, isB_iff.mpr ⟨e3, e4⟩⟩)
    all_goals rcases List.mem_append.mp hr with hr | hr
    · exact h.inK r hr
    · rw [List.mem_singleton.mp hr]; exact hk
    · exact h.inN r hr
    · rw [List.mem_singleton.mp hr]; exact hn
    · exact h.ent r hr
    · rw [List.mem_singleton.mp hr]; exact he
theorem BkOk.perm {ks xs : List Str} {b c : Bk} (h : BkOk ks xs b) (p : c.Perm b) : BkOk ks xs c :=
  ⟨(p.map _).nodup_iff.mpr h.nd, fun r hr => h.inK r (p.mem_iff.mp hr), fun r hr => h.inN r (p.mem_iff.mp hr), fun r hr => h.ent r (p.mem_iff.mp hr)⟩
/-! #### walking -/
def kTupK (R : DK) : List W → Oh → Prop := fun xs O1 => match keysW xs with
  | some ks => xs.length ≤ 1000 ∧ R (.k ks) O1
  | none => False
instance {ws : DA} {Γ : Gm} {O : Oh} {R : DK} {xe : DX} : Go (dTupK ws Γ O R xe) (ws Γ O (kTupK R) xe) := ⟨fun h => h⟩
instance {O : Oh} {R : DK} {a b : Str} : Go (kTupK R [.d (.str a), .d (.str b)] O) (R (.k (kyB a b)) O) := ⟨fun h => ⟨Nat.le_of_ble_eq_true rfl, h⟩⟩
class BkM (x : W) (O : Oh) (b : outParam Bk) : Prop where
  e : asDt x O = some (bkC b)
  k : asDk x O = none
instance {O : Oh} {j : Nat} {b : Bk} [g : Cl O j (.dct (bkC b))] : BkM (.c j) O b := ⟨by unfold asDt; dsimp only; rw [g.e], by unfold asDk; dsimp only; rw [g.e]⟩
instance {O : Oh} {j : Nat} {od : Obj} {es : List (List Key × V)} {b : Bk} [g : Cl O j (.ldct od es (bkC b))] : BkM (.c j) O b := ⟨by unfold asDt; dsimp only; rw [g.e], by unfold asDk; dsimp only; rw [g.e]⟩
theorem isDict_bk {x : W} {O : Oh} {b : Bk} (g : BkM x O b) : isDictW x O = true := by unfold isDictW; rw [g.e, g.k]; rfl
theorem dGet_bk {x : W} {O : Oh} {b : Bk} {k n : Str} {c : Option W → Prop} (g : BkM x O b) (h : c ((bget b k n).map W.d)) : dGet x (.k (kyB k n)) O c := by
  unfold dGet
  rw [g.k]
  dsimp only
  rw [g.e]
  dsimp only [keyT]
  rw [valW_bk]
  exact h
instance {x : W} {k n : Str} {O : Oh} {R : DK} {b : Bk} [g : BkM x O b] : Go (dIn2 false (.k (kyB k n)) x O R) (R (.d (.bool (bget b k n).isSome)) O) := ⟨fun h => by
  unfold dIn2
  rw [if_pos (isDict_bk g)]
  refine dGet_bk g ?_
  rw [if_neg Bool.false_ne_true, Option.isSome_map]
  exact h⟩
/-! #### what a book tells -/
end Dl
namespace Dl
open PySem PySem.Spec PyProof.Rows L2
/-! ### families and books as tuples -/
theorem put_key {a b : Str} {Γ Γ1 Γ2 : Gm} {i j : Nat} {R : Gm → Prop} [g1 : Put Γ i (some (.d (.str a))) Γ1] [g2 : Put Γ1 j (some (.d (.str b))) Γ2] (h : R Γ2) : (Tg.tup [.nm i, .nm j]).put (.k (kyB a b)) Γ R := by
  show R ((Γ.set i (some (.d (.str a)))).set j (some (.d (.str b))))
  rw [g1.e, g2.e]; exact h
instance {a b : Str} {Γ Γ1 Γ2 : Gm} {i j : Nat} {R : Gm → Prop} [g1 : Put Γ i (some (.d (.str a))) Γ1] [g2 : Put Γ1 j (some (.d (.str b))) Γ2] : Go ((Tg.tup [.nm i, .nm j]).put (.k (kyB a b)) Γ R) (R Γ2) := ⟨put_key⟩
def kKeysT (S : List W → (Oh → Prop) → Oh → Prop) : DK := fun r O1 => match r with
  | .c j => (match O1[j]? with
    | some (.ldct od es kvs) => (kvs.all fun kv => kv.1.all keyOk) = true ∧ S (kvs.map fun kv => W.k kv.1) (fun O => O[j]? = some (.ldct od es kvs)) O1
    | _ => False)
  | _ => False
instance {w : DEx} {Γ : Gm} {O : Oh} {S : List W → (Oh → Prop) → Oh → Prop} {xe : DX} : Go (dKeysT w Γ O S xe) (w Γ O (kKeysT S) xe) := ⟨fun h => h⟩
end Dl
namespace Dl
open PySem PySem.Spec PyProof.Rows L2
/-! ### books, drawn -/
instance {n : Nat} {b : Bk} : CLt n (.dct (bkC b)) := ⟨by
  show (bkC b).all (fun p => p.2.lt n) = true
  rw [List.all_eq_true]
  intro p hp
  obtain ⟨r, _, rfl⟩ := List.mem_map.mp hp
  rfl⟩
end Dl
namespace Dl
open PySem PySem.Spec PyProof.Rows L2
/-! ### what is handled, gone through -/
def kIsX (nm D : Str) (q : Addr) (d : Option Addr) (R : DK) : DK := fun x O1 => match x with
  | .o b d' fs => b = q ∧ d' = d ∧ R (.d (.bool (nm == D))) O1
  | _ => False
instance {nm D : Str} {q : Addr} {d : Option Addr} {we : DEx} {Γ : Gm} {O : Oh} {R : DK} {xe : DX} : Go (dIsX nm D q d we Γ O R xe) (we Γ O (kIsX nm D q d R) xe) := ⟨fun h => h⟩
instance {nm D : Str} {q : Addr} {d : Option Addr} {fs : List (Str × PyData)} {O : Oh} {R : DK} : Go (kIsX nm D q d R (.o q d fs) O) (R (.d (.bool (nm == D))) O) := ⟨fun h => ⟨rfl, rfl, h⟩⟩
def kIsXT (nm : Str) (Ds : List Str) (q : Addr) (d : Option Addr) (R : DK) : DK := fun x O1 => match x with
  | .o b d' fs => b = q ∧ d' = d ∧ R (.d (.bool (Ds.contains nm))) O1
  | _ => False
instance {nm : Str} {Ds : List Str} {q : Addr} {d : Option Addr} {we : DEx} {Γ : Gm} {O : Oh} {R : DK} {xe : DX} : Go (dIsXT nm Ds q d we Γ O R xe) (we Γ O (kIsXT nm Ds q d R) xe) := ⟨fun h => h⟩
instance {nm : Str} {Ds : List Str} {q : Addr} {d : Option Addr} {fs : List (Str × PyData)} {O : Oh} {R : DK} : Go (kIsXT nm Ds q d R (.o q d fs) O) (R (.d (.bool (Ds.contains nm))) O) := ⟨fun h => ⟨rfl, rfl, h⟩⟩
def kIsV (q : Addr) (d : Option Addr) (R : DK) : DK := fun x O1 => match x with
  | .o b d' fs => b = q ∧ d' = d ∧ R (.d (.bool true)) O1
  | _ => False
instance {q : Addr} {d : Option Addr} {we : DEx} {Γ : Gm} {O : Oh} {R : DK} {xe : DX} : Go (dIsV q d we Γ O R xe) (we Γ O (kIsV q d R) xe) := ⟨fun h => h⟩
instance {q : Addr} {d : Option Addr} {fs : List (Str × PyData)} {O : Oh} {R : DK} : Go (kIsV q d R (.o q d fs) O) (R (.d (.bool true)) O) := ⟨fun h => ⟨rfl, rfl, h⟩⟩
/-! #### texts cut, places of lists -/
theorem cutS_take5 (s : Str) (a : Nat) : (cutS s none (some (a : Nat))).length = min a s.length := by
  unfold cutS
  rw [HT.sIx_none, HT.sIx_nat]
  show (List.toArray _).size = _
  rw [List.size_toArray, List.length_take, List.drop_zero, Array.length_toList]
  show min (min a s.length - 0) s.length = _
  omega
theorem cutS_drop5 (s : Str) (a : Nat) : (cutS s (some (a : Nat)) none).length = s.length - a := by
  unfold cutS
  rw [HT.sIx_none, HT.sIx_nat]
  show (List.toArray _).size = _
  rw [List.size_toArray, List.length_take, List.length_drop, Array.length_toList]
  show min (s.length - min a s.length) (s.length - min a s.length) = _
  omega
/-! #### tries of several clauses -/
instance {hs : List HK} {tb te : DSt} {D : DEnds} {xe : DX} {Γ : Gm} {O : Oh} : Go (dTryK hs tb te D xe Γ O) (tb { D with nx := te D xe } (dHs hs D xe) Γ O) := ⟨fun h => h⟩
instance {i : Nat} {Γ Γ' : Gm} {D : DEnds} {O : Oh} [p : Put Γ i none Γ'] : Go ((endsK (some i) D).nx Γ O) (D.nx Γ' O) := ⟨fun h => by show D.nx (Γ.set i none) O; rw [p.e]; exact h⟩
instance {Γ : Gm} {D : DEnds} {O : Oh} : Go ((endsK none D).nx Γ O) (D.nx Γ O) := ⟨fun h => h⟩
/-! #### zip of lists, filtered -/
def kZipL (S : List W → (Oh → Prop) → Oh → Prop) : List W → Oh → Prop := fun xs O1 => match xs with
  | [x, y] => match snapW x O1, snapW y O1 with
    | some (ds, ok), some (es, ok') => S (zipW ds es) (fun O => ok O ∧ ok' O) O1
    | _, _ => False
  | _ => False
instance {ws : DA} {Γ : Gm} {O : Oh} {S : List W → (Oh → Prop) → Oh → Prop} {xe : DX} : Go (dZipL ws Γ O S xe) (ws Γ O (kZipL S) xe) := ⟨fun h => h⟩
end Dl
namespace Dl
open PySem PySem.Spec PyProof.Rows L2
/-! ### instances: fields, methods, making, gone through -/
class Lk (fs : List (Str × W)) (f : Str) (v : outParam W) : Prop where
  e : fs.lookup f = some v
class NoLk (fs : List (Str × W)) (f : Str) : Prop where
  e : fs.lookup f = none
def kFld (C f : Str) (R : DK) : DK := fun x O1 => match x with
  | .c j => (match O1[j]? with
    | some (.ins C' fs) => (match fs.lookup f with
      | some v => C' = C ∧ R v O1
      | none => False)
    | _ => False)
  | _ => False
instance {C f : Str} {w : DEx} {Γ : Gm} {O : Oh} {R : DK} {xe : DX} : Go (dFld C f w Γ O R xe) (w Γ O (kFld C f R) xe) := ⟨fun h => h⟩
instance {C f : Str} {O : Oh} {R : DK} {j : Nat} {fs : List (Str × W)} {v : W} [g : Cl O j (.ins C fs)] [l : Lk fs f v] : Go (kFld C f R (.c j) O) (R v O) := ⟨fun h => by
  unfold kFld; dsimp only; rw [g.e]; dsimp only; rw [l.e]; exact ⟨rfl, h⟩⟩
def kSetF2 (C f : Str) (y : W) (k : Gm → Oh → Prop) (Γ : Gm) : DK := fun x O2 => match x with
  | .c j => (match O2[j]? with
    | some (.ins C' fs) => C' = C ∧ fs.length < 1000 ∧ k Γ (O2.set j (.ins C (putFW f y fs)))
    | _ => False)
  | _ => False
def kSetF1 (C f : Str) (wa : DEx) (k : Gm → Oh → Prop) (xe : DX) (Γ : Gm) : DK := fun y O1 => wa Γ O1 (kSetF2 C f y k Γ) xe
instance {f b c : Gm → Oh → Prop} {r : DK} {Γ : Gm} {O : Oh} {xe : DX} {C n : Str} {wa wv : DEx} : Go (dSetF C n wa wv ⟨f, r, b, c⟩ xe Γ O) (wv Γ O (kSetF1 C n wa f xe Γ) xe) := ⟨fun h => h⟩
instance {f : Gm → Oh → Prop} {Γ : Gm} {O : Oh} {xe : DX} {C n : Str} {wa : DEx} {y : W} : Go (kSetF1 C n wa f xe Γ y O) (wa Γ O (kSetF2 C n y f Γ) xe) := ⟨fun h => h⟩
def kMeth2 (f : DFn) (j : Nat) (Γ : Gm) (R : DK) (xe : DX) : List W → Oh → Prop := fun vs O2 => f (.c j :: vs) O2 R fun ex O3 => xe ex Γ O3
def kMeth (C m : Str) (f : DFn) (ws : DA) (Γ : Gm) (R : DK) (xe : DX) : DK := fun x O1 => match x with
  | .c j => (match O1[j]? with
    | some (.ins C' fs) => (match fs.lookup m with
      | some _ => False
      | none => C' = C ∧ ws Γ O1 (fun vs O2 => f (.c j :: vs) O2 R fun ex O3 => xe ex Γ O3) xe)
    | _ => False)
  | _ => False
instance {C m : Str} {f : DFn} {wa : DEx} {ws : DA} {Γ : Gm} {O : Oh} {R : DK} {xe : DX} : Go (dMeth C m f wa ws Γ O R xe) (wa Γ O (kMeth C m f ws Γ R xe) xe) := ⟨fun h => h⟩
instance {C m : Str} {f : DFn} {ws : DA} {Γ : Gm} {O : Oh} {R : DK} {xe : DX} {j : Nat} {fs : List (Str × W)} [g : Cl O j (.ins C fs)] [l : NoLk fs m] : Go (kMeth C m f ws Γ R xe (.c j) O) (ws Γ O (kMeth2 f j Γ R xe) xe) := ⟨fun h => by
  unfold kMeth; dsimp only; rw [g.e]; dsimp only; rw [l.e]; exact ⟨rfl, h⟩⟩
instance {f : DFn} {j : Nat} {Γ : Gm} {R : DK} {xe : DX} {vs : List W} {O : Oh} : Go (kMeth2 f j Γ R xe vs O) (f (.c j :: vs) O R fun ex O3 => xe ex Γ O3) := ⟨fun h => h⟩
def kMade (j : Nat) (R : DK) : DK := fun r O2 => match r with
  | .d .none => R (.c j) O2
  | _ => False
instance {j : Nat} {R : DK} {O : Oh} : Go (kMade j R (.d .none) O) (R (.c j) O) := ⟨fun h => h⟩
def kMake (C : Str) (f : DFn) (Γ : Gm) (R : DK) (xe : DX) : List W → Oh → Prop := fun vs O1 => f (.c O1.length :: vs) (O1 ++ [.ins C []]) (kMade O1.length R) fun ex O2 => xe ex Γ O2
instance {C : Str} {f : DFn} {ws : DA} {Γ : Gm} {O : Oh} {R : DK} {xe : DX} : Go (dMake C f ws Γ O R xe) (ws Γ O (kMake C f Γ R xe) xe) := ⟨fun h => h⟩
instance {C : Str} {f : DFn} {Γ : Gm} {R : DK} {xe : DX} {vs : List W} {O O' : Oh} {j : Nat} [n : Nw O (.ins C []) j O'] : Go (kMake C f Γ R xe vs O) (f (.c j :: vs) O' (kMade j R) fun ex O2 => xe ex Γ O2) := ⟨fun h => by
  unfold kMake; rw [n.e.1, n.e.2]; exact h⟩
instance (priority := low) {O L : Oh} {n : Nat} {c : Cell} [l : Len O n] : Cl (O ++ (c :: L)) n c := ⟨by rw [← l.e, List.getElem?_append_right (Nat.le_refl _), Nat.sub_self]; rfl⟩
instance (priority := low) {O L : Oh} {n : Nat} {c0 c1 : Cell} [l : Len O n] : St (O ++ (c0 :: L)) n c1 (O ++ (c1 :: L)) := ⟨by rw [← l.e, List.set_append_right _ _ (Nat.le_refl _), Nat.sub_self]; rfl⟩
/-! #### a method: the cells of its instance are at the end of the store -/
class Tk (L : List Cell) (k : Nat) (L' : outParam (List Cell)) : Prop where
  e : L.take k = L'
instance {L : List Cell} : Tk L 0 [] := ⟨rfl⟩
instance {c : Cell} {L L' : List Cell} {k : Nat} [h : Tk L k L'] : Tk (c :: L) (k + 1) (c :: L') := ⟨by rw [List.take_succ_cons, h.e]⟩
class CloL (n : Nat) (L : List Cell) : Prop where
  e : L.all (Cell.lt n) = true
theorem finL_go {B L L' : Oh} {n k : Nat} {K : Oh → Prop} (l : Len B n) (c : CloC (n + k) B) (t : Tk L k L') (q : CloL (n + k) L') (h : K (B ++ L')) : Fin (n + k) (B ++ L) K := by
  have e : (B ++ L).take (n + k) = B ++ L' := by rw [← l.e, List.take_append, List.take_of_length_le (Nat.le_add_right _ _), Nat.add_sub_cancel_left, t.e]
  refine .inr ?_
  rw [e]
  refine ⟨?_, h⟩
  unfold Clo
  rw [List.all_append, Bool.and_eq_true]
  exact ⟨c.e, q.e⟩
instance {B L L' : Oh} {n k : Nat} {K : Oh → Prop} [l : Len B n] [c : CloC (n + k) B] [t : Tk L k L'] [q : CloL (n + k) L'] : Go (Fin (n + k) (B ++ L) K) (K (B ++ L')) := ⟨finL_go l c t q⟩
instance {B L L' : Oh} {n k : Nat} {R : DK} {x : PyData} [l : Len B n] [c : CloC (n + k) B] [t : Tk L k L'] [q : CloL (n + k) L'] : Go (dAns (n + k) R (.d x) (B ++ L)) (R (.d x) (B ++ L')) := ⟨finL_go (K := R (.d x)) l c t q⟩
/-! #### range(3, ..) -/
def kRng2 (S : List W → (Oh → Prop) → Oh → Prop) : List W → Oh → Prop := fun vs O1 => match vs with
  | [.d (.int i), .d (.int j)] => (i < 4611686018427387904 ∧ -4611686018427387904 ≤ i ∧ j < 4611686018427387904 ∧ -4611686018427387904 ≤ j) ∧ S (rgW i (j - i).toNat) (fun _ => True) O1
  | _ => False
instance {ws : DA} {Γ : Gm} {O : Oh} {S : List W → (Oh → Prop) → Oh → Prop} {xe : DX} : Go (dRng2 ws Γ O S xe) (ws Γ O (kRng2 S) xe) := ⟨fun h => h⟩
end Dl
namespace Dl
open PySem PySem.Spec PyProof.Rows L2
/-! ### what the laws of books have in common -/
theorem NamesD.sub {xs ys : List Str} {m : Nat} (h : NamesD xs m) (p : ys.Sublist xs) : NamesD ys ys.length :=
  ⟨h.nd.sublist p, fun s hs => h.ok s (p.subset hs), rfl, fun s hs => h.low s (p.subset hs)⟩
instance {R : DK} {O : Oh} {b : Bool} : Go (dIntB [.d (.bool b)] O R) (R (.d (.int (if b then 1 else 0))) O) := ⟨fun h => h⟩
end Dl
namespace Dl
open PySem PySem.Spec PyProof.Rows L2
/-! ### walks along lists that are cells; lists of keys -/
abbrev kW (q : Str × Str) : W := .k [.inr q.1, .inr q.2]
def kLcK (t : Tg) (tt : DT) (we : DEx) (Γ : Gm) (R : DK) : List W → (Oh → Prop) → Oh → Prop := fun xs ok O1 => lcGoK ok t tt we Γ (fun acc O2 => R (.c O2.length) (O2 ++ [.lst (acc.map W.k)])) xs [] O1
instance {w : DI} {t : Tg} {tt : DT} {we : DEx} {own : List Nat} {Γ Γ' : Gm} {O : Oh} {R : DK} {xe : DX} [z : Wipe Γ own Γ'] : Go (dLcK w t tt we own Γ O R xe) (w Γ O (kLcK t tt we Γ' R) xe) := ⟨fun h => by unfold dLcK; rw [z.e]; exact h⟩
/-! #### len(set(tuple)) -/
def kLenSetT (R : DK) : DK := fun x O1 => match x with
  | .d (.tuple ds) => (match strsD ds with
    | some ys => ys.length ≤ 1000 ∧ R (.d (.int ((met ys).length : Nat))) O1
    | none => False)
  | _ => False
instance {R : DK} {Γ : Gm} {O : Oh} {xe : DX} {w : DEx} : Go (dLenSetT w Γ O R xe) (w Γ O (kLenSetT R) xe) := ⟨fun h => h⟩
end Dl
namespace Dl
open PySem PySem.Spec PyProof.Rows L2
/-! ### Go's for Dl66 -/
def kPar3 (i j l : Nat) (f : Gm → Oh → Prop) (Γ : Gm) : List W → Oh → Prop := fun vs O => match vs with
  | [u, v, w] => f (((Γ.set i (some u)).set j (some v)).set l (some w)) O
  | _ => False
instance {f b c : Gm → Oh → Prop} {r : DK} {Γ : Gm} {O : Oh} {xe : DX} {i j l : Nat} {ws : DA} : Go (dPar3 i j l ws ⟨f, r, b, c⟩ xe Γ O) (ws Γ O (kPar3 i j l f Γ) xe) := ⟨fun h => h⟩
instance {f : Gm → Oh → Prop} {Γ Γ1 Γ2 Γ3 : Gm} {i j l : Nat} {u v w : W} {O : Oh} [g1 : Put Γ i (some u) Γ1] [g2 : Put Γ1 j (some v) Γ2] [g3 : Put Γ2 l (some w) Γ3] : Go (kPar3 i j l f Γ [u, v, w] O) (f Γ3 O) := ⟨fun h => by unfold kPar3; dsimp only; rw [g1.e, g2.e, g3.e]; exact h⟩
def kCut2 (x : W) (wh : DO) (Γ : Gm) (R : DK) (xe : DX) : Option Int → Oh → Prop := fun lo O2 => wh Γ O2 (fun hi O3 => dSlK x lo hi O3 R) xe
def kCut1 (wl wh : DO) (Γ : Gm) (R : DK) (xe : DX) : DK := fun x O1 => wl Γ O1 (kCut2 x wh Γ R xe) xe
instance {R : DK} {Γ : Gm} {O : Oh} {xe : DX} {wo : DEx} {wl wh : DO} : Go (dSliceK wo wl wh Γ O R xe) (wo Γ O (kCut1 wl wh Γ R xe) xe) := ⟨fun h => h⟩
end Dl
namespace Dl
open PySem PySem.Spec PyProof.Rows L2
/-! ### Go's for Dl68: lists of keys, pairs of texts -/
abbrev kk (q : Str × Str) : List Key := kyB q.1 q.2
theorem ks_kW (qs : List (Str × Str)) : ksOf (qs.map kW) = some (qs.map kk) := by
  rw [show qs.map kW = (qs.map kk).map W.k by rw [List.map_map]; rfl, ksOf_map]
theorem kk_inj {p q : Str × Str} (h : kk p = kk q) : p = q := by
  obtain ⟨a, b⟩ := p
  obtain ⟨c, d⟩ := q
  simp only [kk, kyB, List.cons.injEq, Sum.inr.injEq, and_true] at h
  rw [h.1, h.2]
theorem mem_kk {a b : Str} {qs : List (Str × Str)} : kyB a b ∈ qs.map kk ↔ (a, b) ∈ qs := by
  constructor
  · intro h
    obtain ⟨q, hq, e⟩ := List.mem_map.mp h
    have := kk_inj (p := q) (q := (a, b)) e
    rw [← this]; exact hq
  · exact fun h => List.mem_map.mpr ⟨_, h, rfl⟩
class KsL (x : W) (O : Oh) (qs : outParam (List (Str × Str))) : Prop where
  e : asL x O = some (qs.map kW)
instance {O : Oh} {j : Nat} {qs : List (Str × Str)} [g : Cl O j (.lst (qs.map kW))] : KsL (.c j) O qs := ⟨by unfold asL; dsimp only; rw [g.e]⟩
theorem go_inKs {neg : Bool} {y : W} {a b : Str} {O : Oh} {R : DK} {qs : List (Str × Str)} [g : KsL y O qs] (h : R (.d (.bool (if neg then !decide ((a, b) ∈ qs) else decide ((a, b) ∈ qs)))) O) : dInKs neg (.k (kyB a b)) y O R := by
  unfold dInKs
  rw [g.e]
  dsimp only
  rw [ks_kW]
  dsimp only
  have : decide (kyB a b ∈ qs.map kk) = decide ((a, b) ∈ qs) := by
    rw [Bool.eq_iff_iff, decide_eq_true_iff, decide_eq_true_iff]
    exact mem_kk
  rw [this]
  exact h
instance {y : W} {a b : Str} {O : Oh} {R : DK} {qs : List (Str × Str)} [g : KsL y O qs] : Go (dInKs false (.k (kyB a b)) y O R) (R (.d (.bool (decide ((a, b) ∈ qs)))) O) := ⟨fun h => go_inKs h⟩
instance {y : W} {a b : Str} {O : Oh} {R : DK} {qs : List (Str × Str)} [g : KsL y O qs] : Go (dInKs true (.k (kyB a b)) y O R) (R (.d (.bool (!decide ((a, b) ∈ qs)))) O) := ⟨fun h => go_inKs h⟩
instance {y : W} {O : Oh} {R : DK} {qs : List (Str × Str)} [g : KsL y O qs] : Go (dEqKs y (.d (.list [])) O R) (R (.d (.bool qs.isEmpty)) O) := ⟨fun h => by
  unfold dEqKs
  rw [g.e]
  dsimp only
  rw [ks_kW]
  dsimp only
  rw [show (qs.map kk).isEmpty = qs.isEmpty by cases qs <;> rfl]
  exact h⟩
instance {y : W} {O : Oh} {R : DK} {qs : List (Str × Str)} [g : KsL y O qs] : Go (dNeKs y (.d (.list [])) O R) (R (.d (.bool (!qs.isEmpty))) O) := ⟨fun h => by
  unfold dNeKs
  rw [g.e]
  dsimp only
  rw [ks_kW]
  dsimp only
  rw [show (qs.map kk).isEmpty = qs.isEmpty by cases qs <;> rfl]
  exact h⟩
instance {n : Nat} {qs : List (Str × Str)} : CLt n (.lst (qs.map kW)) := ⟨by
  show (qs.map kW).all (W.lt n) = true
  rw [List.all_map, List.all_eq_true]
  exact fun _ _ => rfl⟩
/-! #### slices -/
def kSlC3 (x : W) (lo : Option Int) (R : DK) : Option Int → Oh → Prop := fun hi O => dSlC x lo hi O R
def kSlC2 (x : W) (wh : DO) (Γ : Gm) (R : DK) (xe : DX) : Option Int → Oh → Prop := fun lo O => wh Γ O (kSlC3 x lo R) xe
def kSlC1 (wl wh : DO) (Γ : Gm) (R : DK) (xe : DX) : DK := fun x O => wl Γ O (kSlC2 x wh Γ R xe) xe
instance {R : DK} {Γ : Gm} {O : Oh} {xe : DX} {wo : DEx} {wl wh : DO} : Go (dSliceC wo wl wh Γ O R xe) (wo Γ O (kSlC1 wl wh Γ R xe) xe) := ⟨fun h => h⟩
instance {R : DK} {Γ : Gm} {O : Oh} {xe : DX} {x : W} {wl wh : DO} : Go (kSlC1 wl wh Γ R xe x O) (wl Γ O (kSlC2 x wh Γ R xe) xe) := ⟨fun h => h⟩
instance {R : DK} {Γ : Gm} {O : Oh} {xe : DX} {x : W} {wh : DO} {lo : Option Int} : Go (kSlC2 x wh Γ R xe lo O) (wh Γ O (kSlC3 x lo R) xe) := ⟨fun h => h⟩
/-! #### remove -/
/-! #### enumerate -/
def kEnumK (S : List W → (Oh → Prop) → Oh → Prop) : List W → Oh → Prop := fun xs O1 => match xs with
  | [.c j] => (match O1[j]? with
    | some (.lst ys) => (match ksOf ys with
      | some kss => S (enumKW 0 kss) (fun O => O[j]? = some (.lst ys)) O1
      | none => False)
    | _ => False)
  | _ => False
instance {S : List W → (Oh → Prop) → Oh → Prop} {Γ : Gm} {O : Oh} {xe : DX} {ws : DA} : Go (dEnumK ws Γ O S xe) (ws Γ O (kEnumK S) xe) := ⟨fun h => h⟩
instance {S : List W → (Oh → Prop) → Oh → Prop} {O : Oh} {j : Nat} {qs : List (Str × Str)} [g : Cl O j (.lst (qs.map kW))] : Go (kEnumK S [.c j] O) (S (enumKW 0 (qs.map kk)) (fun O => O[j]? = some (.lst (qs.map kW))) O) := ⟨fun h => by
  unfold kEnumK
  dsimp only
  rw [g.e]
  dsimp only
  rw [ks_kW]
  exact h⟩
instance {i j : Nat} {n : Int} {ks : List Key} {Γ Γ1 Γ2 : Gm} {R : Gm → Prop} [g1 : Put Γ i (some (.d (.int n))) Γ1] [g2 : Put Γ1 j (some (.k ks)) Γ2] : Go ((Tg.tup [.nm i, .nm j]).put (.e n ks) Γ R) (R Γ2) := ⟨fun h => by
  show R ((Γ.set i (some (.d (.int n)))).set j (some (.k ks)))
  rw [g1.e, g2.e]; exact h⟩
/-! #### lists of keys that are made -/
def kLcKT (we : DEx) (Γ : Gm) (C : DK) (N : Oh → Prop) : Bool → Oh → Prop := fun b O => if b = true then we Γ O C X0 else N O
instance {we : DEx} {Γ : Gm} {C : DK} {N : Oh → Prop} {O : Oh} : Go (kLcKT we Γ C N true O) (we Γ O C X0) := ⟨fun h => by unfold kLcKT; rw [if_pos rfl]; exact h⟩
instance {we : DEx} {Γ : Gm} {C : DK} {N : Oh → Prop} {O : Oh} : Go (kLcKT we Γ C N false O) (N O) := ⟨fun h => by unfold kLcKT; rw [if_neg Bool.false_ne_true]; exact h⟩
end Dl
namespace Dl
open PySem PySem.Spec PyProof.Rows L2
/-! ### things whose texts and rows are not long, whose dicts are empty -/
def sm : PyData → Bool
  | .str s => decide (s.length ≤ 1000)
  | .dict kvs => kvs.isEmpty
  | _ => true
theorem sm_dict {kvs : List (PyData × PyData)} (h : sm (.dict kvs) = true) : kvs = [] := by
  cases kvs with
  | nil => rfl
  | cons a b => cases h
theorem sm_str {s : Str} (h : sm (.str s) = true) : s.length ≤ 1000 := of_decide_eq_true h
/-! ### names -/
abbrev LET : Str := "abcdefghijklmnopqrstuvwxyz"
def nmB (s : Str) : Bool := if 1 ≤ s.length ∧ s.length ≤ 8 then (chS s).all (fun z => strIn z LET) else false
def nmD : PyData → Bool
  | .str s => nmB s
  | _ => false
theorem nmB_off {s : Str} (h : ¬ (1 ≤ s.length ∧ s.length ≤ 8)) : nmB s = false := if_neg h
theorem nmB_on {s : Str} (h : 1 ≤ s.length ∧ s.length ≤ 8) : nmB s = (chS s).all (fun z => strIn z LET) := if_pos h
theorem sp_nameS {s : Str} (hz : s.length ≤ 1000) {O : Oh} {R : DK} {xe : Exn → Oh → Prop} (k : R (.d (.bool (nmB s))) O) : w_is_name [.d (.str s)] O R xe := by
  refine def_start rfl fun n l cl => ?_
  repeat refine Go.h ?_
  refine go_lenS (by omega) ?_
  repeat refine Go.h ?_
  by_cases h1 : 1 ≤ s.length
  · rw [decide_eq_true (by omega)]
    repeat refine Go.h ?_
    by_cases h2 : s.length ≤ 8
    · rw [decide_eq_true (by omega)]
      repeat refine Go.h ?_
      refine lc_all PyData.str (fun z => .bool (strIn z LET)) trivial (by rw [chS_len]; show s.length ≤ _; omega) (fun z hz C hC => ?_) ?_
      · repeat refine Go.h ?_
        refine go_inStr ?_
        rw [if_neg Bool.false_ne_true]
        exact hC
      repeat refine Go.h ?_
      have e : ((chS s).map fun z => strIn z LET).all id = nmB s := by rw [nmB_on ⟨h1, h2⟩, List.all_map]; rfl
      rw [e]
      repeat refine Go.h ?_
      exact k
    · rw [decide_eq_false (by omega)]
      repeat refine Go.h ?_
      rw [nmB_off (fun h => h2 h.2)] at k
      exact k
  · rw [decide_eq_false (by omega)]
    repeat refine Go.h ?_
    rw [nmB_off (fun h => h1 h.1)] at k
    exact k
theorem sp_nameG {d : PyData} (hd : sm d = true) {O : Oh} {R : DK} {xe : Exn → Oh → Prop} (k : R (.d (.bool (nmD d))) O) : w_is_name [.d d] O R xe := by
  cases d with
  | str s => exact sp_nameS (sm_str hd) k
  | dict kvs =>
    cases sm_dict hd
    refine def_start rfl fun n l cl => ?_
    repeat refine Go.h ?_
    exact k
  | _ =>
    refine def_start rfl fun n l cl => ?_
    repeat refine Go.h ?_
    exact k
end Dl
namespace Dl
open PySem PySem.Spec PyProof.Rows L2
/-! ### pairs, parents, kinds of anything -/
theorem lc_W {i : Nat} {we : DEx} {Γ : Gm} {fin : List PyData → Oh → Prop} {ds : List PyData} {O : Oh} {ok : Oh → Prop} (g : PyData → PyData) (hok : ok O) (hz : ds.length ≤ 1000000)
    (h2 : ∀ x ∈ ds, ∀ C : DK, C (.d (g x)) O → (Tg.nm i).put (.d x) Γ fun Γ' => we Γ' O C X0)
    (h : fin (ds.map g) O) : lcGo ok (.nm i) dYes we Γ fin (ds.map W.d) [] O :=
  lc_map W.d (fun _ => true) g hok hz (fun x _ C hC => by unfold Tg.put; exact hC) (fun x hx _ => h2 x hx) (by rw [List.filter_eq_self.mpr (fun _ _ => rfl)]; exact h)
/-! #### parents -/
def inB (ks : List Str) : PyData → Bool
  | .str s => decide (s ∈ ks)
  | _ => false
end Dl
namespace Dl
open PySem PySem.Spec PyProof.Rows L2
/-! ### the lines of any pairs, turn by turn, or the first kind whose rows no order keeps -/
abbrev Ls := List Str × (Str → List Str)
abbrev Fm := List (Str × List Str)
def upL (L : Str → List Str) (k : Str) (l : List Str) : Str → List Str := fun s => if s = k then l else L s
theorem upL_new {L : Str → List Str} {k : Str} {l : List Str} : upL L k l k = l := if_pos rfl
theorem upL_old {L : Str → List Str} {k s : Str} {l : List Str} (h : s ≠ k) : upL L k l s = L s := if_neg h
abbrev st0 : Ls := ([], fun _ => [])
structure FamR (f : Fm) : Prop where
  few : f.length ≤ 8
  ok : ∀ p ∈ f, OkS p.1 ∧ p.2.Nodup ∧ p.2.length ≤ 4
structure LsOk (f : Fm) (st : Ls) : Prop where
  nd : st.1.Nodup
  sub : ∀ s ∈ st.1, s ∈ f.map Prod.fst
  row : ∀ s ∈ st.1, (st.2 s).Nodup ∧ ∀ t ∈ st.2 s, t ∈ st.1
theorem LsOk.nil {f : Fm} : LsOk f st0 := ⟨List.nodup_nil, fun _ h => (nomatch h), fun _ h => (nomatch h)⟩
theorem LsOk.len {f : Fm} {st : Ls} (g : FamR f) (h : LsOk f st) : st.1.length ≤ 8 := by
  have := nodup_sub_len h.nd h.sub
  rw [List.length_map] at this
  have := g.few
  omega
theorem merged_in {L : Str → List Str} {own m : List Str} {P : Str → Prop} (hr : ∀ r ∈ rowsOf L own, r.Nodup ∧ ∀ t ∈ r, P t) (h : mergedOf (rowsOf L own) = .ok m) : m.Nodup ∧ ∀ t ∈ m, P t := by
  have mo := merged_ok (rs := rowsOf L own) fun r hrr => (hr r hrr).1
  rw [h] at mo
  refine ⟨mo.nd, fun t ht => ?_⟩
  obtain ⟨r, hrr, htr⟩ := List.mem_flatten.mp (met_strs (mo.perm.mem_iff.mp ht))
  exact (hr r hrr).2 t htr
theorem LsOk.rows {f : Fm} {st : Ls} (h : LsOk f st) {own : List Str} (h2 : own.Nodup) (h4 : ∀ s ∈ own, s ∈ st.1) : ∀ r ∈ rowsOf st.2 own, r.Nodup ∧ ∀ t ∈ r, t ∈ st.1 := by
  intro r hr
  unfold rowsOf at hr
  rcases List.mem_append.mp hr with hr | hr
  · obtain ⟨q, hq, rfl⟩ := List.mem_map.mp hr
    exact h.row q (h4 q hq)
  · rw [List.mem_singleton.mp hr]; exact ⟨h2, h4⟩
/-- a line more -/
theorem LsOk.more {f : Fm} {st : Ls} (h : LsOk f st) {p : Str × List Str} {m : List Str} (hp : p ∈ f) (nd : p.2.Nodup) (hd : p.1 ∉ st.1) (ha : ∀ s ∈ p.2, s ∈ st.1) (hm : mergedOf (rowsOf st.2 p.2) = .ok m) : LsOk f (st.1 ++ [p.1], upL st.2 p.1 (p.1 :: m)) := by
  obtain ⟨m1, m2⟩ := merged_in (h.rows nd ha) hm
  refine ⟨nd_snoc h.nd hd, fun s hs => ?_, fun s hs => ?_⟩
  · rcases List.mem_append.mp hs with hs | hs
    · exact h.sub s hs
    · rw [List.mem_singleton.mp hs]; exact List.mem_map.mpr ⟨p, hp, rfl⟩
  · dsimp only
    rcases List.mem_append.mp hs with hs | hs
    · have hne : s ≠ p.1 := fun e => hd (e ▸ hs)
      rw [upL_old hne]
      exact ⟨(h.row s hs).1, fun t ht => List.mem_append_left _ ((h.row s hs).2 t ht)⟩
    · rw [List.mem_singleton.mp hs, upL_new]
      refine ⟨List.nodup_cons.mpr ⟨fun z => hd (m2 _ z), m1⟩, fun t ht => ?_⟩
      rcases List.mem_cons.mp ht with rfl | ht
      · simp
      · exact List.mem_append_left _ (m2 t ht)
end Dl
namespace Dl
open PySem PySem.Spec PyProof.Rows L2
/-! ### is_family, of anything -/
theorem IsNm.ok {s : Str} (h : IsNm s) : OkS s := by
  refine ⟨?_, by have := h.2.1; omega⟩
  unfold PyData.strOk
  rw [← Array.all_toList, List.all_eq_true]
  intro c hc
  have := (h.2.2 c hc).2
  exact decide_eq_true (by omega)
end Dl
namespace Dl
open PySem PySem.Spec PyProof.Rows L2
/-! ### entries looked at, whatever stands in their place -/
def wholeB : PyData → Bool
  | .int _ => true
  | _ => false
def nineB : PyData → Bool
  | .int i => decide (-9 ≤ i) && decide (i ≤ 9)
  | _ => false
def stepB (d : PyData) : Bool := if PyData.eqv d (.tuple [.str "onward"]) = true then true else match d with
  | .tuple [a, b] => if PyData.eqv a (.str "ask") = true then nmD b else if PyData.eqv a (.str "times") = true then nineB b else PyData.eqv a (.str "add") && wholeB b
  | _ => false
def stepsB : PyData → Bool
  | .tuple ds => if ds.length ≤ 4 then ds.all stepB else false
  | _ => false
end Dl
namespace Dl
open PySem PySem.Spec PyProof.Rows L2
def entryB : PyData → Bool
  | .tuple [a, b, c] => PyData.eqv a (.str "ahead") && (nmD b && wholeB c)
  | .tuple [a, b] => if PyData.eqv a (.str "plain") = true then wholeB b else inB ["behind", "shut"] a && stepsB b
  | _ => false
end Dl
namespace Dl
open PySem PySem.Spec PyProof.Rows L2
/-! ### things -/
structure Things where
  ts : List Str
  kd : Str → Str
  nm : Str → List Str
  vl : Str → Str → Int
structure ThOk (ks : List Str) (T : Things) : Prop where
  nd : T.ts.Nodup
  low : ∀ t ∈ T.ts, IsNm t
  kd : ∀ t ∈ T.ts, T.kd t ∈ ks
  nnd : ∀ t ∈ T.ts, (T.nm t).Nodup
  nlow : ∀ t ∈ T.ts, ∀ s ∈ T.nm t, IsNm s
  few : ∀ t ∈ T.ts, (T.nm t).length ≤ 20
def Things.put (T : Things) (t k : Str) (σ : List Str) (v : Str → Int) : Things := ⟨T.ts ++ [t], fun u => if u = t then k else T.kd u, fun u => if u = t then σ else T.nm u, fun u => if u = t then v else T.vl u⟩
theorem ThOk.put {ks : List Str} {T : Things} (h : ThOk ks T) {t k : Str} {σ : List Str} {v : Str → Int} (ht : t ∉ T.ts) (hl : IsNm t) (hk : k ∈ ks) (nd : σ.Nodup) (low : ∀ s ∈ σ, IsNm s) (hz : σ.length ≤ 20) : ThOk ks (T.put t k σ v) := by
  have ne : ∀ u ∈ T.ts, u ≠ t := fun u hu e => ht (e ▸ hu)
  refine ⟨nd_snoc h.nd ht, fun u hu => ?_, fun u hu => ?_, fun u hu => ?_, fun u hu => ?_, fun u hu => ?_⟩ <;> (have hu : u ∈ T.ts ++ [t] := hu) <;> rcases List.mem_append.mp hu with hu | hu
  · exact h.low u hu
  · rw [List.mem_singleton.mp hu]; exact hl
  · show (if u = t then k else T.kd u) ∈ ks
    rw [if_neg (ne u hu)]; exact h.kd u hu
  · show (if u = t then k else T.kd u) ∈ ks
    rw [if_pos (List.mem_singleton.mp hu)]; exact hk
  · show (if u = t then σ else T.nm u).Nodup
    rw [if_neg (ne u hu)]; exact h.nnd u hu
  · show (if u = t then σ else T.nm u).Nodup
    rw [if_pos (List.mem_singleton.mp hu)]; exact nd
  · show ∀ s ∈ (if u = t then σ else T.nm u), IsNm s
    rw [if_neg (ne u hu)]; exact h.nlow u hu
  · show ∀ s ∈ (if u = t then σ else T.nm u), IsNm s
    rw [if_pos (List.mem_singleton.mp hu)]; exact low
  · show (if u = t then σ else T.nm u).length ≤ 20
    rw [if_neg (ne u hu)]; exact h.few u hu
  · show (if u = t then σ else T.nm u).length ≤ 20
    rw [if_pos (List.mem_singleton.mp hu)]; exact hz
end Dl
namespace Dl
open PySem PySem.Spec PyProof.Rows L2
/-! ### the world of things and a book -/
def kSrtN (R : DK) : DK := fun x O1 => match x with
  | .d (.dict kvs) => (match strInts kvs with
    | some ks => (keysD kvs).isSome = true ∧ ks.length ≤ 1000 ∧ alikeB (ks.map tiD) = true ∧ sortableB (ks.map tiD) = true ∧ (∀ p ∈ ks, PyData.strOk p.1 = true) ∧ R (.c O1.length) (O1 ++ [.lst ((srtD (ks.map tiD)).map W.d)])
    | none => False)
  | _ => False
instance {w : DEx} {Γ : Gm} {O : Oh} {R : DK} {xe : DX} : Go (dSrtN w Γ O R xe) (w Γ O (kSrtN R) xe) := ⟨fun h => h⟩
def kItemsT (S : List W → (Oh → Prop) → Oh → Prop) : DK := fun r O1 => match r with
  | .c j => (match O1[j]? with
    | some (.ldct od es kvs) => (match qsW kvs with
      | some xs => (xs.all fun p => p.1.all keyOk) = true ∧ S (xs.map fun p => W.q p.1 p.2) (fun O => O[j]? = some (.ldct od es kvs)) O1
      | none => False)
    | _ => False)
  | _ => False
instance {w : DEx} {Γ : Gm} {O : Oh} {S : List W → (Oh → Prop) → Oh → Prop} {xe : DX} : Go (dItemsT w Γ O S xe) (w Γ O (kItemsT S) xe) := ⟨fun h => h⟩
class FzL (x : W) (O : Oh) (ds : outParam (List PyData)) : Prop where
  e : asL x O = some (ds.map W.d)
instance {O : Oh} {j : Nat} {ds : List PyData} [g : Cl O j (.lst (ds.map W.d))] : FzL (.c j) O ds := ⟨by unfold asL; dsimp only; rw [g.e]⟩
end Dl
namespace Dl
open PySem PySem.Spec PyProof.Rows L2
/-! ### Go's for Dl70 .. Dl75 -/
/-! #### any store -/
instance (priority := 5) anySt {O : Oh} {j : Nat} {c : Cell} : St O j c (O.set j c) := ⟨rfl⟩
instance (priority := 5) anyNw {O : Oh} {c : Cell} : Nw O c O.length (O ++ [c]) := ⟨rfl, rfl⟩
class NeN (i j : Nat) : Prop where
  e : i ≠ j
instance (priority := 6) clSet {O : Oh} {j : Nat} {c c0 : Cell} [g : Cl O j c0] : Cl (O.set j c) j c := ⟨List.getElem?_set_self (List.getElem?_eq_some_iff.mp g.e).1⟩
instance (priority := 5) clSetN {O : Oh} {i j : Nat} {c c0 : Cell} [g : Cl O i c0] [n : NeN i j] : Cl (O.set j c) i c0 := ⟨by rw [List.getElem?_set_ne (Ne.symm n.e)]; exact g.e⟩
instance (priority := 6) clNew {O : Oh} {c : Cell} : Cl (O ++ [c]) O.length c := ⟨by rw [List.getElem?_append_right (Nat.le_refl _), Nat.sub_self]; rfl⟩
/-! #### x += e -/
def kSetG (i : Nat) (k : Gm → Oh → Prop) (Γ : Gm) : DK := fun z O2 => k (Γ.set i (some z)) O2
def kAug (F : D2) (i : Nat) (x : W) (k : Gm → Oh → Prop) (Γ : Gm) : DK := fun y O1 => F x y O1 (kSetG i k Γ)
theorem go_aug {f b c : Gm → Oh → Prop} {r : DK} {Γ : Gm} {O : Oh} {xe : DX} {i : Nat} {w : DEx} {F : D2} {x : W} [g : Get Γ i (some x)] (h : w Γ O (kAug F i x f Γ) xe) : dAug i w F ⟨f, r, b, c⟩ xe Γ O := by
  unfold dAug; rw [g.e]; exact h
instance {f b c : Gm → Oh → Prop} {r : DK} {Γ : Gm} {O : Oh} {xe : DX} {i : Nat} {w : DEx} {F : D2} {x : W} [g : Get Γ i (some x)] : Go (dAug i w F ⟨f, r, b, c⟩ xe Γ O) (w Γ O (kAug F i x f Γ) xe) := ⟨go_aug⟩
instance {k : Gm → Oh → Prop} {Γ : Gm} {O : Oh} {i : Nat} {F : D2} {x y : W} : Go (kAug F i x k Γ y O) (F x y O (kSetG i k Γ)) := ⟨fun h => h⟩
instance {k : Gm → Oh → Prop} {Γ Γ' : Gm} {O : Oh} {i : Nat} {z : W} [g : Put Γ i (some z) Γ'] : Go (kSetG i k Γ z O) (k Γ' O) := ⟨fun h => by unfold kSetG; rw [g.e]; exact h⟩
/-! #### o.f += e -/
def kAugF2 (C f : Str) (j : Nat) (m : Int) (k : Gm → Oh → Prop) (Γ : Gm) : DK := fun y O2 => match y with
  | .d (.int n) => (match O2[j]? with
    | some (.ins C2 fs2) => C2 = C ∧ fs2.length < 1000 ∧ k Γ (O2.set j (.ins C (putFW f (.d (.int (m + n))) fs2)))
    | _ => False)
  | _ => False
def kAugF1 (C f : Str) (wv : DEx) (k : Gm → Oh → Prop) (xe : DX) (Γ : Gm) : DK := fun x O1 => match x with
  | .c j => (match O1[j]? with
    | some (.ins C' fs) => (match fs.lookup f with
      | some (.d (.int m)) => C' = C ∧ wv Γ O1 (kAugF2 C f j m k Γ) xe
      | _ => False)
    | _ => False)
  | _ => False
instance {f b c : Gm → Oh → Prop} {r : DK} {Γ : Gm} {O : Oh} {xe : DX} {C n : Str} {wa wv : DEx} : Go (dAugF C n wa wv ⟨f, r, b, c⟩ xe Γ O) (wa Γ O (kAugF1 C n wv f xe Γ) xe) := ⟨fun h => h⟩
instance {k : Gm → Oh → Prop} {Γ : Gm} {O : Oh} {xe : DX} {C n : Str} {wv : DEx} {j : Nat} {fs : List (Str × W)} {m : Int} [g : Cl O j (.ins C fs)] [l : Lk fs n (.d (.int m))] : Go (kAugF1 C n wv k xe Γ (.c j) O) (wv Γ O (kAugF2 C n j m k Γ) xe) := ⟨fun h => by
  unfold kAugF1; dsimp only; rw [g.e]; dsimp only; rw [l.e]; exact ⟨rfl, h⟩⟩
/-! #### d[k] += e -/
def kAugI3 (x y : W) (m : Int) (k : Gm → Oh → Prop) (Γ : Gm) : DK := fun z O3 => match z with
  | .d (.int n) => (match x with
    | .c j => (match O3[j]? with
      | some (.dic kvs) => (match keyW y with
        | some q => kvs.length < 1000000 ∧ k Γ (O3.set j (.dic (putW kvs q (.d (.int (m + n))))))
        | none => False)
      | _ => False)
    | _ => False)
  | _ => False
def kAugI2 (x : W) (we : DEx) (k : Gm → Oh → Prop) (xe : DX) (Γ : Gm) : DK := fun y O2 => dGet x y O2 fun q => match q with
  | some (.d (.int m)) => we Γ O2 (kAugI3 x y m k Γ) xe
  | _ => False
def kAugI1 (wi we : DEx) (k : Gm → Oh → Prop) (xe : DX) (Γ : Gm) : DK := fun x O1 => wi Γ O1 (kAugI2 x we k xe Γ) xe
instance {f b c : Gm → Oh → Prop} {r : DK} {Γ : Gm} {O : Oh} {xe : DX} {wo wi we : DEx} : Go (dAugI wo wi we ⟨f, r, b, c⟩ xe Γ O) (wo Γ O (kAugI1 wi we f xe Γ) xe) := ⟨fun h => h⟩
instance {k : Gm → Oh → Prop} {Γ : Gm} {O : Oh} {xe : DX} {wi we : DEx} {x : W} : Go (kAugI1 wi we k xe Γ x O) (wi Γ O (kAugI2 x we k xe Γ) xe) := ⟨fun h => h⟩
/-! #### methods -/
def kMeth0 (C m : Str) (f : DFn) (Γ : Gm) (R : DK) (xe : DX) : DK := fun x O1 => match x with
  | .c j => (match O1[j]? with
    | some (.ins C' fs) => (match fs.lookup m with
      | some _ => False
      | none => C' = C ∧ f [.c j] O1 R fun ex O3 => xe ex Γ O3)
    | _ => False)
  | _ => False
instance {C m : Str} {f : DFn} {wa : DEx} {Γ : Gm} {O : Oh} {R : DK} {xe : DX} : Go (dMeth0 C m f wa Γ O R xe) (wa Γ O (kMeth0 C m f Γ R xe) xe) := ⟨fun h => h⟩
instance {C m : Str} {f : DFn} {Γ : Gm} {O : Oh} {R : DK} {xe : DX} {j : Nat} {fs : List (Str × W)} [g : Cl O j (.ins C fs)] [l : NoLk fs m] : Go (kMeth0 C m f Γ R xe (.c j) O) (f [.c j] O R fun ex O3 => xe ex Γ O3) := ⟨fun h => by
  unfold kMeth0; dsimp only; rw [g.e]; dsimp only; rw [l.e]; exact ⟨rfl, h⟩⟩
def kMethD2 (f : DFn) (ds : List W) (j : Nat) (Γ : Gm) (R : DK) (xe : DX) : List W → Oh → Prop := fun vs O2 => f (.c j :: (vs ++ ds)) O2 R fun ex O3 => xe ex Γ O3
def kMethD (C m : Str) (f : DFn) (ds : List W) (ws : DA) (Γ : Gm) (R : DK) (xe : DX) : DK := fun x O1 => match x with
  | .c j => (match O1[j]? with
    | some (.ins C' fs) => (match fs.lookup m with
      | some _ => False
      | none => C' = C ∧ ws Γ O1 (fun vs O2 => f (.c j :: (vs ++ ds)) O2 R fun ex O3 => xe ex Γ O3) xe)
    | _ => False)
  | _ => False
instance {C m : Str} {f : DFn} {ds : List W} {wa : DEx} {ws : DA} {Γ : Gm} {O : Oh} {R : DK} {xe : DX} : Go (dMethD C m f ds wa ws Γ O R xe) (wa Γ O (kMethD C m f ds ws Γ R xe) xe) := ⟨fun h => h⟩
instance {C m : Str} {f : DFn} {ds : List W} {ws : DA} {Γ : Gm} {O : Oh} {R : DK} {xe : DX} {j : Nat} {fs : List (Str × W)} [g : Cl O j (.ins C fs)] [l : NoLk fs m] : Go (kMethD C m f ds ws Γ R xe (.c j) O) (ws Γ O (kMethD2 f ds j Γ R xe) xe) := ⟨fun h => by
  unfold kMethD; dsimp only; rw [g.e]; dsimp only; rw [l.e]; exact ⟨rfl, h⟩⟩
instance {f : DFn} {ds : List W} {j : Nat} {Γ : Gm} {R : DK} {xe : DX} {vs : List W} {O : Oh} : Go (kMethD2 f ds j Γ R xe vs O) (f (.c j :: (vs ++ ds)) O R fun ex O3 => xe ex Γ O3) := ⟨fun h => h⟩
def kMakeD (C : Str) (f : DFn) (ds : List W) (Γ : Gm) (R : DK) (xe : DX) : List W → Oh → Prop := fun vs O1 => f (.c O1.length :: (vs ++ ds)) (O1 ++ [.ins C []]) (kMade O1.length R) fun ex O2 => xe ex Γ O2
instance {C : Str} {f : DFn} {ds : List W} {ws : DA} {Γ : Gm} {O : Oh} {R : DK} {xe : DX} : Go (dMakeD C f ds ws Γ O R xe) (ws Γ O (kMakeD C f ds Γ R xe) xe) := ⟨fun h => h⟩
instance {C : Str} {f : DFn} {ds : List W} {Γ : Gm} {R : DK} {xe : DX} {vs : List W} {O O' : Oh} {j : Nat} [n : Nw O (.ins C []) j O'] : Go (kMakeD C f ds Γ R xe vs O) (f (.c j :: (vs ++ ds)) O' (kMade j R) fun ex O2 => xe ex Γ O2) := ⟨fun h => by
  unfold kMakeD; rw [n.e.1, n.e.2]; exact h⟩
/-! #### d.get(k, x), d.pop(k, x) -/
def kGetD3 (x y : W) (R : DK) : DK := fun z O3 => dGet x y O3 (fun q => match q with
  | some w => R w O3
  | none => R z O3)
def kGetD2 (x : W) (wf : DEx) (Γ : Gm) (R : DK) (xe : DX) : DK := fun y O2 => wf Γ O2 (kGetD3 x y R) xe
def kGetD1 (wi wf : DEx) (Γ : Gm) (R : DK) (xe : DX) : DK := fun x O1 => isDictW x O1 = true ∧ wi Γ O1 (kGetD2 x wf Γ R xe) xe
instance {wo wi wf : DEx} {Γ : Gm} {O : Oh} {R : DK} {xe : DX} : Go (dGetD wo wi wf Γ O R xe) (wo Γ O (kGetD1 wi wf Γ R xe) xe) := ⟨fun h => h⟩
theorem isDict_dic {O : Oh} {j : Nat} {kvs : List (Key × W)} (g : O[j]? = some (.dic kvs)) : isDictW (.c j) O = true := by unfold isDictW asDk; dsimp only; rw [g]; rfl
theorem isDict_dct {O : Oh} {j : Nat} {kvs : List (List Key × W)} (g : O[j]? = some (.dct kvs)) : isDictW (.c j) O = true := by unfold isDictW asDk asDt; dsimp only; rw [g]; rfl
instance {wi wf : DEx} {Γ : Gm} {O : Oh} {R : DK} {xe : DX} {j : Nat} {kvs : List (Key × W)} [g : Cl O j (.dic kvs)] : Go (kGetD1 wi wf Γ R xe (.c j) O) (wi Γ O (kGetD2 (.c j) wf Γ R xe) xe) := ⟨fun h => ⟨isDict_dic g.e, h⟩⟩
instance {wi wf : DEx} {Γ : Gm} {O : Oh} {R : DK} {xe : DX} {j : Nat} {kvs : List (List Key × W)} [g : Cl O j (.dct kvs)] : Go (kGetD1 wi wf Γ R xe (.c j) O) (wi Γ O (kGetD2 (.c j) wf Γ R xe) xe) := ⟨fun h => ⟨isDict_dct g.e, h⟩⟩
instance {wf : DEx} {Γ : Gm} {O : Oh} {R : DK} {xe : DX} {x y : W} : Go (kGetD2 x wf Γ R xe y O) (wf Γ O (kGetD3 x y R) xe) := ⟨fun h => h⟩
/-- d.get(k) -/
def kGetM2 (x : W) (R : DK) : DK := fun y O2 => dGet x y O2 (fun q => match q with
  | some w => R w O2
  | none => R (.d .none) O2)
def kGetM1 (wi : DEx) (Γ : Gm) (R : DK) (xe : DX) : DK := fun x O1 => isDictW x O1 = true ∧ wi Γ O1 (kGetM2 x R) xe
instance {wo wi : DEx} {Γ : Gm} {O : Oh} {R : DK} {xe : DX} : Go (dGetM wo wi Γ O R xe) (wo Γ O (kGetM1 wi Γ R xe) xe) := ⟨fun h => h⟩
instance {wi : DEx} {Γ : Gm} {O : Oh} {R : DK} {xe : DX} {j : Nat} {kvs : List (Key × W)} [g : Cl O j (.dic kvs)] : Go (kGetM1 wi Γ R xe (.c j) O) (wi Γ O (kGetM2 (.c j) R) xe) := ⟨fun h => ⟨isDict_dic g.e, h⟩⟩
instance {wi : DEx} {Γ : Gm} {O : Oh} {R : DK} {xe : DX} {j : Nat} {kvs : List (List Key × W)} [g : Cl O j (.dct kvs)] : Go (kGetM1 wi Γ R xe (.c j) O) (wi Γ O (kGetM2 (.c j) R) xe) := ⟨fun h => ⟨isDict_dct g.e, h⟩⟩
def kPopDD3 (x y : W) (R : DK) : DK := fun z O3 => match x with
  | .c j => (match O3[j]? with
    | some (.dic kvs) => (match keyW y with
      | some q => (match valW kvs q with
        | some w => R w (O3.set j (.dic (dropW kvs q)))
        | none => R z O3)
      | none => False)
    | _ => False)
  | _ => False
def kPopDD2 (x : W) (wf : DEx) (Γ : Gm) (R : DK) (xe : DX) : DK := fun y O2 => wf Γ O2 (kPopDD3 x y R) xe
def kPopDD1 (wi wf : DEx) (Γ : Gm) (R : DK) (xe : DX) : DK := fun x O1 => isDictW x O1 = true ∧ wi Γ O1 (kPopDD2 x wf Γ R xe) xe
instance {wo wi wf : DEx} {Γ : Gm} {O : Oh} {R : DK} {xe : DX} : Go (dPopDD wo wi wf Γ O R xe) (wo Γ O (kPopDD1 wi wf Γ R xe) xe) := ⟨fun h => h⟩
instance {wi wf : DEx} {Γ : Gm} {O : Oh} {R : DK} {xe : DX} {j : Nat} {kvs : List (Key × W)} [g : Cl O j (.dic kvs)] : Go (kPopDD1 wi wf Γ R xe (.c j) O) (wi Γ O (kPopDD2 (.c j) wf Γ R xe) xe) := ⟨fun h => ⟨isDict_dic g.e, h⟩⟩
instance {wf : DEx} {Γ : Gm} {O : Oh} {R : DK} {xe : DX} {x y : W} : Go (kPopDD2 x wf Γ R xe y O) (wf Γ O (kPopDD3 x y R) xe) := ⟨fun h => h⟩
/-! #### lists of any values -/
def kLcW (t : Tg) (tt : DT) (we : DEx) (Γ : Gm) (R : DK) : List W → (Oh → Prop) → Oh → Prop := fun xs ok O1 => lcGoW ok t tt we Γ (fun acc O2 => R (.c O2.length) (O2 ++ [.lst acc])) xs [] O1
instance {w : DI} {t : Tg} {tt : DT} {we : DEx} {own : List Nat} {Γ Γ' : Gm} {O : Oh} {R : DK} {xe : DX} [z : Wipe Γ own Γ'] : Go (dLcW w t tt we own Γ O R xe) (w Γ O (kLcW t tt we Γ' R) xe) := ⟨fun h => by unfold dLcW; rw [z.e]; exact h⟩
def kLcWT (we : DEx) (Γ : Gm) (C : DK) (N : Oh → Prop) : Bool → Oh → Prop := fun b O => if b = true then we Γ O C X0 else N O
instance {we : DEx} {Γ : Gm} {C : DK} {N : Oh → Prop} {O : Oh} : Go (kLcWT we Γ C N true O) (we Γ O C X0) := ⟨fun h => by unfold kLcWT; rw [if_pos rfl]; exact h⟩
instance {we : DEx} {Γ : Gm} {C : DK} {N : Oh → Prop} {O : Oh} : Go (kLcWT we Γ C N false O) (N O) := ⟨fun h => by unfold kLcWT; rw [if_neg Bool.false_ne_true]; exact h⟩
/-! #### pairs of a key and data; dict of such -/
def kTupQ (R : DK) : List W → Oh → Prop := fun xs O1 => match xs with
  | [.k ks, .d x] => R (.q ks x) O1
  | _ => False
instance {ws : DA} {Γ : Gm} {O : Oh} {R : DK} {xe : DX} : Go (dTupQ ws Γ O R xe) (ws Γ O (kTupQ R) xe) := ⟨fun h => h⟩
instance {O : Oh} {R : DK} {ks : List Key} {x : PyData} : Go (kTupQ R [.k ks, .d x] O) (R (.q ks x) O) := ⟨fun h => h⟩
theorem put_q {i j : Nat} {ks : List Key} {x : PyData} {Γ Γ1 Γ2 : Gm} {R : Gm → Prop} [g1 : Put Γ i (some (.k ks)) Γ1] [g2 : Put Γ1 j (some (.d x)) Γ2] (h : R Γ2) : (Tg.tup [.nm i, .nm j]).put (.q ks x) Γ R := by
  show R ((Γ.set i (some (.k ks))).set j (some (.d x)))
  rw [g1.e, g2.e]; exact h
instance {i j : Nat} {ks : List Key} {x : PyData} {Γ Γ1 Γ2 : Gm} {R : Gm → Prop} [g1 : Put Γ i (some (.k ks)) Γ1] [g2 : Put Γ1 j (some (.d x)) Γ2] : Go ((Tg.tup [.nm i, .nm j]).put (.q ks x) Γ R) (R Γ2) := ⟨put_q⟩
/-! #### a dict that is walked, wherever it stands -/
def kItemsE (S : List W → (Oh → Prop) → Oh → Prop) : DK := fun r O1 => match r with
  | .c j => (match O1[j]? with
    | some (.ldct od es kvs) => (match qsW kvs with
      | some xs => (xs.all fun p => p.1.all keyOk) = true ∧ S (xs.map fun p => W.q p.1 p.2) (fun O => O[j]? = some (.ldct od es kvs)) O1
      | none => False)
    | _ => False)
  | .d (.dict []) => S [] (fun _ => True) O1
  | _ => False
instance {wo : DEx} {Γ : Gm} {O : Oh} {S : List W → (Oh → Prop) → Oh → Prop} {xe : DX} : Go (dItemsE wo Γ O S xe) (wo Γ O (kItemsE S) xe) := ⟨fun h => h⟩
instance {O : Oh} {S : List W → (Oh → Prop) → Oh → Prop} : Go (kItemsE S (.d (.dict [])) O) (S [] (fun _ => True) O) := ⟨fun h => h⟩
/-! #### displays, update, truth -/
def kDisp2 (n : Nat) (R : DK) : List (Key × W) → Oh → Prop := fun ps O2 => O2[n]? = some (.dic []) ∧ ps.length ≤ 15 ∧ R (.c n) (O2.set n (.dic (mergeW [] ps)))
theorem go_disp {w : DP} {Γ : Gm} {O O' : Oh} {R : DK} {xe : DX} {n : Nat} [q : Nw O (.dic []) n O'] (h : w Γ O' (kDisp2 n R) xe) : dDisp w Γ O R xe := by
  unfold dDisp; rw [q.e.1, q.e.2]; exact h
instance {w : DP} {Γ : Gm} {O O' : Oh} {R : DK} {xe : DX} {n : Nat} [q : Nw O (.dic []) n O'] : Go (dDisp w Γ O R xe) (w Γ O' (kDisp2 n R) xe) := ⟨go_disp⟩
def kDpQ (q : Key) (y : W) (Q : List (Key × W) → Oh → Prop) : List (Key × W) → Oh → Prop := fun ps O3 => Q ((q, y) :: ps) O3
def kDp2 (x : W) (r : DP) (Γ : Gm) (Q : List (Key × W) → Oh → Prop) (xe : DX) : DK := fun y O2 => match keyW x with
  | some q => r Γ O2 (fun ps O3 => Q ((q, y) :: ps) O3) xe
  | none => False
def kDp1 (wv : DEx) (r : DP) (Γ : Gm) (Q : List (Key × W) → Oh → Prop) (xe : DX) : DK := fun x O1 => wv Γ O1 (kDp2 x r Γ Q xe) xe
instance {wk wv : DEx} {r : DP} {Γ : Gm} {O : Oh} {Q : List (Key × W) → Oh → Prop} {xe : DX} : Go (dpCons wk wv r Γ O Q xe) (wk Γ O (kDp1 wv r Γ Q xe) xe) := ⟨fun h => h⟩
instance {wv : DEx} {r : DP} {Γ : Gm} {O : Oh} {Q : List (Key × W) → Oh → Prop} {xe : DX} {x : W} : Go (kDp1 wv r Γ Q xe x O) (wv Γ O (kDp2 x r Γ Q xe) xe) := ⟨fun h => h⟩
instance {r : DP} {Γ : Gm} {O : Oh} {Q : List (Key × W) → Oh → Prop} {xe : DX} {s : Str} {y : W} : Go (kDp2 (.d (.str s)) r Γ Q xe y O) (r Γ O (kDpQ (.inr s) y Q) xe) := ⟨fun h => h⟩
instance {Γ : Gm} {O : Oh} {Q : List (Key × W) → Oh → Prop} {xe : DX} : Go (dpNil Γ O Q xe) (Q [] O) := ⟨fun h => h⟩
instance {O : Oh} {q : Key} {y : W} {Q : List (Key × W) → Oh → Prop} {ps : List (Key × W)} : Go (kDpQ q y Q ps O) (Q ((q, y) :: ps) O) := ⟨fun h => h⟩
def kOrT (wb : DEx) (Γ : Gm) (R : DK) (xe : DX) : DK := fun x O1 => match truW x O1 with
  | some true => R x O1
  | some false => wb Γ O1 R xe
  | none => False
instance {wa wb : DEx} {Γ : Gm} {O : Oh} {R : DK} {xe : DX} : Go (dOrT wa wb Γ O R xe) (wa Γ O (kOrT wb Γ R xe) xe) := ⟨fun h => h⟩
instance {wb : DEx} {Γ : Gm} {O : Oh} {R : DK} {xe : DX} : Go (kOrT wb Γ R xe (.d .none) O) (wb Γ O R xe) := ⟨fun h => h⟩
instance {wb : DEx} {Γ : Gm} {O : Oh} {R : DK} {xe : DX} {x : PyData} {l : List PyData} : Go (kOrT wb Γ R xe (.d (.tuple (x :: l))) O) (R (.d (.tuple (x :: l))) O) := ⟨fun h => h⟩
def kTru (R : Bool → Oh → Prop) : DK := fun x O1 => match truW x O1 with
  | some t => R t O1
  | none => False
instance {wa : DEx} {Γ : Gm} {O : Oh} {R : Bool → Oh → Prop} {xe : DX} : Go (dTru wa Γ O R xe) (wa Γ O (kTru R) xe) := ⟨fun h => h⟩
instance {O : Oh} {R : Bool → Oh → Prop} : Go (kTru R (.d .none) O) (R false O) := ⟨fun h => h⟩
instance {O : Oh} {R : Bool → Oh → Prop} {b : Bool} : Go (kTru R (.d (.bool b)) O) (R b O) := ⟨fun h => h⟩
instance {O : Oh} {R : Bool → Oh → Prop} {i : Int} : Go (kTru R (.d (.int i)) O) (R (i != 0) O) := ⟨fun h => h⟩
instance {O : Oh} {R : Bool → Oh → Prop} {l : List PyData} : Go (kTru R (.d (.list l)) O) (R (!l.isEmpty) O) := ⟨fun h => h⟩
instance {O : Oh} {R : Bool → Oh → Prop} {l : List PyData} : Go (kTru R (.d (.tuple l)) O) (R (!l.isEmpty) O) := ⟨fun h => h⟩
end Dl
namespace Dl
open PySem PySem.Spec PyProof.Rows L2
/-! ### Go's: upper, lists that never change any more -/
def kUpper (R : DK) : DK := fun x O1 => match x with
  | .d (.str a) => a.length ≤ 1000000 ∧ PyData.strOk (Txt.upper a) = true ∧ R (.d (.str (Txt.upper a))) O1
  | _ => False
instance {wo : DEx} {Γ : Gm} {O : Oh} {R : DK} {xe : DX} : Go (dUpper wo Γ O R xe) (wo Γ O (kUpper R) xe) := ⟨fun h => h⟩
def kFrzL (R : DK) : DK := fun x O1 => match x with
  | .d x => R (.d x) O1
  | .c j => (match O1[j]? with
    | some (.lst ws) => (match datas ws with
      | some ds => R (.d (.list ds)) (O1.set j .gone)
      | none => False)
    | _ => False)
  | _ => False
instance {we : DEx} {Γ : Gm} {O : Oh} {R : DK} {xe : DX} : Go (dFrzL we Γ O R xe) (we Γ O (kFrzL R) xe) := ⟨fun h => h⟩
instance {O : Oh} {R : DK} {d : PyData} : Go (kFrzL R (.d d) O) (R (.d d) O) := ⟨fun h => h⟩
end Dl
namespace Dl
open PySem PySem.Spec PyProof.Rows L2
/-! ### Go's: isinstance with two classes, insert, things with empty dicts -/
def kIsi2 (T U : String) (R : DK) : DK := fun x O => match tyW x O with
  | some t => R (.d (.bool (subT t T || subT t U))) O
  | none => False
instance {R : DK} {Γ : Gm} {O : Oh} {xe : DX} {T U : String} {w : DEx} : Go (dIsi2 T U w Γ O R xe) (w Γ O (kIsi2 T U R) xe) := ⟨fun h => h⟩
class OrB (b c : Bool) (r : outParam Bool) : Prop where
  e : (b || c) = r
instance {c : Bool} : OrB true c true := ⟨rfl⟩
instance {c : Bool} : OrB false c c := ⟨rfl⟩
instance {R : DK} {O : Oh} {T U t : String} {x : W} {b c r : Bool} [h1 : TyW x O t] [h2 : SubT t T b] [h3 : SubT t U c] [h4 : OrB b c r] : Go (kIsi2 T U R x O) (R (.d (.bool r)) O) := ⟨fun h => by unfold kIsi2; rw [h1.e]; dsimp only; rw [h2.e, h3.e, h4.e]; exact h⟩
theorem go_insert {O O' : Oh} {R : DK} {j m : Nat} {y : W} {ws ws' : List W} [g : Cl O j (.lst ws)] (hz : ws.length < 1000000) (hm : m ≤ 1000000) (e : ws.take m ++ [y] ++ ws.drop m = ws') [s : St O j (.lst ws') O'] (h : R (.d .none) O') : dInsert (.c j) [.d (.int (m : Nat)), y] O R := by
  unfold dInsert; dsimp only; rw [g.e]; dsimp only; rw [Int.toNat_natCast, e, s.e]
  exact ⟨hz, by omega, by omega, h⟩
theorem go_eqZs {d : PyData} {b : Str} {O : Oh} {R : DK} (z : t0 d = true) (h : R (.d (.bool (PyData.eqv d (.str b)))) O) : dEqZ (.d d) (.d (.str b)) O R := ⟨z, h⟩
theorem go_eqZt {d : PyData} {ds : List PyData} {O : Oh} {R : DK} (hs : (strsD ds).isSome = true) (z : t1 d = true) (h : R (.d (.bool (PyData.eqv d (.tuple ds)))) O) : dEqZ (.d d) (.d (.tuple ds)) O R := by
  unfold dEqZ
  dsimp only
  cases e : strsD ds with
  | none => rw [e] at hs; cases hs
  | some ss => exact ⟨z, h⟩
theorem go_inZ {neg : Bool} {d e : PyData} {ks : List Str} (he : e = tS ks ∨ e = lS ks) (z : t0 d = true) {O : Oh} {R : DK} (h : R (.d (.bool (neg ^^ (ks.any fun b => PyData.eqv d (.str b))))) O) : dInZ neg (.d d) (.d e) O R := by
  rcases he with rfl | rfl
  · unfold dInZ
    dsimp only [tS, lS]
    rw [strsD_map]
    exact ⟨z, h⟩
  · unfold dInZ
    dsimp only [tS, lS]
    rw [strsD_map]
    exact ⟨z, h⟩
theorem go_neNil {O : Oh} {R : DK} {j : Nat} {ws : List W} [g : Cl O j (.lst ws)] (h : R (.d (.bool (!ws.isEmpty))) O) : dNeNil (.c j) (.d (.list [])) O R := by
  unfold dNeNil; dsimp only; rw [g.e]; exact h
theorem go_extendZ {O O' : Oh} {R : DK} {j : Nat} {y : W} {ws us ws' : List W} [g : Cl O j (.lst ws)] [a : AsL y O us] (hz : ws.length + us.length ≤ 1000000) (e : ws ++ us = ws') [s : St O j (.lst ws') O'] (h : R (.d .none) O') : dExtend (.c j) [y] O R := by
  unfold dExtend; dsimp only; rw [g.e]; dsimp only; rw [a.e]; dsimp only; rw [e, s.e]; exact ⟨hz, h⟩
end Dl
namespace Dl
open PySem PySem.Spec PyProof.Rows L2
open PySem.Builtin.Str (reprChar)
/-! ### things that are short and not deep: no dict but empty ones -/
def zg (L : Nat) : Nat → PyData → Bool
  | _, .none => true
  | _, .bool _ => true
  | _, .int i => decide (i.natAbs ≤ 10 ^ 19)
  | _, .str s => decide (s.length ≤ L) && PyData.strOk s
  | n + 1, .list ds => ds.all (zg L n)
  | n + 1, .tuple ds => ds.all (zg L n)
  | _, .dict kvs => kvs.isEmpty
  | _, _ => false
mutual
def wt : PyData → Nat
  | .none => 4
  | .bool _ => 5
  | .int _ => 70
  | .str s => 10 * s.length + 2
  | .list ds => 2 + wts ds
  | .tuple ds => 3 + wts ds
  | .dict _ => 2
def wts : List PyData → Nat
  | [] => 0
  | d :: ds => wt d + 2 + wts ds
end
theorem wts_app (xs ys : List PyData) : wts (xs ++ ys) = wts xs + wts ys := by
  induction xs with
  | nil => simp [wts]
  | cons x xs ih => simp only [List.cons_append, wts, ih]; omega
theorem wts_len (ds : List PyData) : 2 * ds.length ≤ wts ds := by
  induction ds with
  | nil => simp [wts]
  | cons x xs ih => simp only [List.length_cons, wts]; omega
theorem wts_mem {d : PyData} {ds : List PyData} (h : d ∈ ds) : wt d + 2 ≤ wts ds := by
  induction ds with
  | nil => cases h
  | cons x xs ih =>
    simp only [wts]
    rcases List.mem_cons.mp h with rfl | h
    · omega
    · have := ih h; omega
theorem wts_sub {xs ys : List PyData} (h : xs.Sublist ys) : wts xs ≤ wts ys := by
  induction h with
  | slnil => exact Nat.le_refl _
  | cons a _ ih => simp only [wts]; omega
  | cons_cons a _ ih => simp only [wts]; omega
theorem zg_up : ∀ (n : Nat) {L : Nat} {d : PyData}, zg L n d = true → zg L (n + 1) d = true
  | n, _, .none, _ => by cases n <;> rfl
  | n, _, .bool b, _ => by cases n <;> rfl
  | n, _, .int i, h => by cases n <;> exact h
  | n, _, .str s, h => by cases n <;> exact h
  | n, _, .dict _, h => by cases n <;> exact h
  | 0, _, .list ds, h | 0, _, .tuple ds, h => by cases h
  | n + 1, L, .list ds, h => List.all_eq_true.mpr fun d hd => zg_up n (List.all_eq_true.mp (show ds.all (zg L n) = true from h) d hd)
  | n + 1, L, .tuple ds, h => List.all_eq_true.mpr fun d hd => zg_up n (List.all_eq_true.mp (show ds.all (zg L n) = true from h) d hd)
theorem zg_le {m n : Nat} (h : m ≤ n) {L : Nat} {d : PyData} (hd : zg L m d = true) : zg L n d = true := by
  induction h with
  | refl => exact hd
  | step _ ih => exact zg_up _ ih
theorem zg_L {L M : Nat} (h : L ≤ M) : ∀ (n : Nat) {d : PyData}, zg L n d = true → zg M n d = true
  | n, .none, _ => by cases n <;> rfl
  | n, .bool b, _ => by cases n <;> rfl
  | n, .int i, h => by cases n <;> exact h
  | n, .str s, z => by
    have z : (decide (s.length ≤ L) && PyData.strOk s) = true := by cases n <;> exact z
    rw [Bool.and_eq_true, decide_eq_true_eq] at z
    have : (decide (s.length ≤ M) && PyData.strOk s) = true := by rw [Bool.and_eq_true, decide_eq_true_eq]; exact ⟨by omega, z.2⟩
    cases n <;> exact this
  | n, .dict _, h => by cases n <;> exact h
  | 0, .list ds, h | 0, .tuple ds, h => by cases h
  | n + 1, .list ds, z => List.all_eq_true.mpr fun d hd => zg_L h n (List.all_eq_true.mp (show ds.all (zg L n) = true from z) d hd)
  | n + 1, .tuple ds, z => List.all_eq_true.mpr fun d hd => zg_L h n (List.all_eq_true.mp (show ds.all (zg L n) = true from z) d hd)
theorem zg_dict {L n : Nat} {kvs : List (PyData × PyData)} (h : zg L n (.dict kvs) = true) : kvs = [] := by
  have : kvs.isEmpty = true := by cases n <;> exact h
  simpa using this
theorem zg_str {L n : Nat} {s : Str} (h : zg L n (.str s) = true) : s.length ≤ L ∧ PyData.strOk s = true := by
  have z : (decide (s.length ≤ L) && PyData.strOk s) = true := by cases n <;> exact h
  rw [Bool.and_eq_true, decide_eq_true_eq] at z
  exact z
theorem zg_int {L n : Nat} {i : Int} (h : zg L n (.int i) = true) : i.natAbs ≤ 10 ^ 19 := by
  have z : decide (i.natAbs ≤ 10 ^ 19) = true := by cases n <;> exact h
  exact of_decide_eq_true z
theorem zg_tup {L n : Nat} {ds : List PyData} (h : zg L n (.tuple ds) = true) : 0 < n ∧ ∀ d ∈ ds, zg L (n - 1) d = true := by
  cases n with
  | zero => cases h
  | succ n => exact ⟨by omega, fun d hd => List.all_eq_true.mp (show ds.all (zg L n) = true from h) d hd⟩
theorem zg_lst {L n : Nat} {ds : List PyData} (h : zg L n (.list ds) = true) : 0 < n ∧ ∀ d ∈ ds, zg L (n - 1) d = true := by
  cases n with
  | zero => cases h
  | succ n => exact ⟨by omega, fun d hd => List.all_eq_true.mp (show ds.all (zg L n) = true from h) d hd⟩
theorem zg_tup_of {L n : Nat} {ds : List PyData} (h : ∀ d ∈ ds, zg L n d = true) : zg L (n + 1) (.tuple ds) = true := List.all_eq_true.mpr h
theorem zg_lst_of {L n : Nat} {ds : List PyData} (h : ∀ d ∈ ds, zg L n d = true) : zg L (n + 1) (.list ds) = true := List.all_eq_true.mpr h
theorem zg_str_of {L n : Nat} {s : Str} (h : s.length ≤ L) (ok : PyData.strOk s = true) : zg L n (.str s) = true := by
  have : (decide (s.length ≤ L) && PyData.strOk s) = true := by rw [Bool.and_eq_true, decide_eq_true_eq]; exact ⟨h, ok⟩
  cases n <;> exact this
theorem zg_int_of {L n : Nat} {i : Int} (h : i.natAbs ≤ 10 ^ 19) : zg L n (.int i) = true := by cases n <;> exact decide_eq_true h
theorem zg_t0 {L n : Nat} {d : PyData} (h : zg L n d = true) : t0 d = true := by
  cases d with
  | dict kvs => rw [zg_dict h]; rfl
  | _ => rfl
theorem zg_t1 {L n : Nat} {d : PyData} (h : zg L n d = true) : t1 d = true := by
  cases d with
  | dict kvs => rw [zg_dict h]; rfl
  | tuple ds => exact List.all_eq_true.mpr fun d hd => zg_t0 ((zg_tup h).2 d hd)
  | _ => rfl
theorem zg_zk {L : Nat} : ∀ (n : Nat) {d : PyData}, zg L n d = true → zk n d = true
  | n, .none, _ => by cases n <;> rfl
  | n, .bool b, _ => by cases n <;> rfl
  | n, .int i, _ => by cases n <;> rfl
  | n, .str s, _ => by cases n <;> rfl
  | n, .dict _, h => by cases n <;> exact h
  | 0, .list ds, h | 0, .tuple ds, h => by cases h
  | n + 1, .list ds, h => List.all_eq_true.mpr fun d hd => zg_zk n (List.all_eq_true.mp (show ds.all (zg L n) = true from h) d hd)
  | n + 1, .tuple ds, h => List.all_eq_true.mpr fun d hd => zg_zk n (List.all_eq_true.mp (show ds.all (zg L n) = true from h) d hd)
/-! #### the text of repr -/
theorem rep_ok {q c : Nat} (hq : q < 1114112) (h : c < 1114112) : ∀ d ∈ reprChar q c, d < 1114112 := by
  have hex : ∀ (w : Nat), ∀ d ∈ List.replicate (w - ((Nat.toDigits 16 c).map Char.toNat).length) 48 ++ (Nat.toDigits 16 c).map Char.toNat, d < 1114112 := by
    intro w d hd
    rcases List.mem_append.mp hd with hd | hd
    · rw [(List.mem_replicate.mp hd).2]; decide
    · obtain ⟨z, _, rfl⟩ := List.mem_map.mp hd
      have := z.valid
      show z.val.toNat < 1114112
      have h1 : z.val.toNat.isValidChar := this
      unfold Nat.isValidChar at h1
      omega
  intro d hd
  unfold reprChar at hd
  dsimp only at hd
  split at hd
  · rename_i hc
    simp only [List.mem_cons, List.mem_nil_iff, or_false] at hd
    omega
  split at hd
  · simp only [List.mem_cons, List.mem_nil_iff, or_false] at hd; omega
  split at hd
  · simp only [List.mem_cons, List.mem_nil_iff, or_false] at hd; omega
  split at hd
  · simp only [List.mem_cons, List.mem_nil_iff, or_false] at hd; omega
  split at hd
  · simp only [List.mem_cons, List.mem_nil_iff, or_false] at hd; omega
  split at hd
  · rcases List.mem_append.mp hd with hd | hd
    · simp only [List.mem_cons, List.mem_nil_iff, or_false] at hd; omega
    · exact hex _ d hd
  split at hd
  · rcases List.mem_append.mp hd with hd | hd
    · simp only [List.mem_cons, List.mem_nil_iff, or_false] at hd; omega
    · exact hex _ d hd
  · rcases List.mem_append.mp hd with hd | hd
    · simp only [List.mem_cons, List.mem_nil_iff, or_false] at hd; omega
    · exact hex _ d hd
theorem quote_cp (x : Str) : reprQuote x = 34 ∨ reprQuote x = 39 := by
  unfold reprQuote
  split
  · exact .inl rfl
  · exact .inr rfl
theorem fold_ok {q : Nat} (hq : q < 1114112) : ∀ (l : List Nat) (acc : Array Nat), (∀ c ∈ acc, c < 1114112) → (∀ c ∈ l, c < 1114112) → ∀ d ∈ l.foldl (fun out c => out ++ (reprChar q c).toArray) acc, d < 1114112
  | [], acc, ha, _ => ha
  | c :: r, acc, ha, h => by
    rw [List.foldl_cons]
    refine fold_ok hq r _ (fun d hd => ?_) fun d hd => h d (List.mem_cons_of_mem _ hd)
    rcases Array.mem_append.mp hd with hd | hd
    · exact ha d hd
    · exact rep_ok hq (h c List.mem_cons_self) d (by simpa using hd)
theorem strOk_cps {x : Str} : PyData.strOk x = true ↔ ∀ c ∈ x.cps.toList, c < 1114112 := by
  unfold PyData.strOk
  rw [Array.all_eq_true_iff_forall_mem]
  exact ⟨fun h c hc => of_decide_eq_true (h c (Array.mem_toList_iff.mp hc)), fun h c hc => decide_eq_true (h c (Array.mem_toList_iff.mpr hc))⟩
theorem reprText_ok {x : Str} (h : PyData.strOk x = true) : PyData.strOk (reprText x) = true := by
  have hq : reprQuote x < 1114112 := by have := quote_cp x; omega
  rw [strOk_cps] at h ⊢
  intro c hc
  have hc : c ∈ (reprText x).cps := Array.mem_toList_iff.mp hc
  unfold reprText at hc
  rcases Array.mem_push.mp hc with hc | rfl
  · rw [← Array.foldl_toList] at hc
    exact fold_ok hq _ _ (fun d hd => by have : d = reprQuote x := by simpa using hd
                                         omega) h c hc
  · exact hq
theorem ofString_ok (s : String) : PyData.strOk (Str.ofString s) = true := by
  rw [strOk_cps, Str.ofString_eq_toList]
  intro c hc
  obtain ⟨z, _, rfl⟩ := List.mem_map.mp (show c ∈ s.toList.map Char.toNat by simpa using hc)
  have h1 : z.val.toNat.isValidChar := z.valid
  show z.val.toNat < 1114112
  unfold Nat.isValidChar at h1
  omega
theorem join_ok {z : Str} (hz : PyData.strOk z = true) : ∀ {ys : List Str}, (∀ y ∈ ys, PyData.strOk y = true) → PyData.strOk (Str.join z ys) = true
  | [], _ => ofString_ok ""
  | [x], h => h x List.mem_cons_self
  | x :: y :: r, h => strOk_append (strOk_append (h x List.mem_cons_self) hz) (join_ok hz fun w hw => h w (List.mem_cons_of_mem _ hw))
theorem from_ok : ∀ (ts : List Str) (k : Nat) (acc : Str), PyData.strOk acc = true → (∀ t ∈ ts, PyData.strOk t = true) → PyData.strOk (textFrom k acc ts) = true
  | [], _, _, h, _ => h
  | t :: ts, k, acc, h, ht => from_ok ts (k + 1) _ (strOk_append (strOk_append h (ofString_ok _)) (ht t List.mem_cons_self)) fun y hy => ht y (List.mem_cons_of_mem _ hy)
theorem len2 (a b : Str) : (a ++ b).length = a.length + b.length := strLen_append a b
theorem from_len : ∀ (ts : List Str) (k : Nat) (acc : Str), (textFrom k acc ts).length ≤ acc.length + piled ts
  | [], _, _ => by show _ ≤ _ + 0; exact Nat.le_refl _
  | t :: ts, k, acc => by
    have := from_len ts (k + 1) (acc ++ (if k > 0 then ", " else "" : String) ++ t)
    have e : ((Str.ofString (if k > 0 then ", " else "" : String))).length ≤ 2 := by split <;> decide +kernel
    rw [piled_cons]
    show (textFrom (k + 1) (acc ++ (if k > 0 then ", " else "" : String) ++ t) ts).length ≤ _
    have e2 : (acc ++ (if k > 0 then ", " else "" : String) ++ t).length = acc.length + (Str.ofString (if k > 0 then ", " else "" : String)).length + t.length := by rw [len2, len2]
    omega
theorem join_lenZ (ts : List Str) : (Str.join ", " ts).length ≤ piled ts := by
  by_cases z : ts = []
  · subst z; decide +kernel
  · have := join_length_add ts z; omega
theorem toString_len {i : Int} (h : i.natAbs ≤ 10 ^ 19) : (Str.ofString (toString i)).length ≤ 65 := by
  have h2 : i.natAbs < 10 ^ 20 := Nat.lt_of_le_of_lt h (by decide)
  have := int_text_length_le10 (k := 20) (by decide) h2
  rw [PySem.ofString_length]
  omega
mutual
theorem zg_shown {L : Nat} : ∀ (n : Nat) {d : PyData}, zg L n d = true → d.showable = true ∧ d.shown.length ≤ wt d ∧ PyData.strOk d.shown = true
  | n, .none, _ => ⟨rfl, by decide +kernel, by decide +kernel⟩
  | n, .bool b, _ => ⟨rfl, by cases b <;> decide +kernel, by cases b <;> decide +kernel⟩
  | n, .int i, h => by
    have hi := zg_int h
    refine ⟨decide_eq_true ?_, ?_, ofString_ok _⟩
    · have h2 : i.natAbs < 2 ^ 1920 := Nat.lt_of_le_of_lt hi (by decide +kernel)
      by_cases z : i.natAbs = 0
      · rw [z]; decide
      · exact (Nat.log2_lt z).mpr h2
    · have := toString_len hi
      show (Str.ofString (toString i)).length ≤ wt (.int i)
      simp only [wt]; omega
  | n, .str s, h => by
    obtain ⟨_, ok⟩ := zg_str h
    refine ⟨rfl, ?_, reprText_ok ok⟩
    show (reprText s).length ≤ wt (.str s)
    simp only [wt]
    exact PySem.StrLaws.reprText_len s fun c hc => Nat.lt_of_lt_of_le (strOk_cps.mp ok c hc) (by decide)
  | n, .dict kvs, h => by
    cases zg_dict h
    exact ⟨rfl, by decide +kernel, by decide +kernel⟩
  | 0, .list ds, h | 0, .tuple ds, h => by cases h
  | n + 1, .list ds, h => by
    obtain ⟨h1, h2, h3⟩ := zg_showns n (show ds.all (zg L n) = true from h)
    refine ⟨by simpa [PyData.showable] using h1, ?_, ?_⟩
    · show (textFrom 0 "[" (PyData.shownAll ds) ++ "]").length ≤ wt (.list ds)
      have := from_len (PyData.shownAll ds) 0 "["
      have e1 : ("[" : Str).length = 1 := by decide +kernel
      have e2 : ("]" : Str).length = 1 := by decide +kernel
      rw [len2]
      simp only [wt]
      omega
    · show PyData.strOk (textFrom 0 "[" (PyData.shownAll ds) ++ "]") = true
      exact strOk_append (from_ok _ _ _ (by decide +kernel) h3) (by decide +kernel)
  | n + 1, .tuple ds, h => by
    obtain ⟨h1, h2, h3⟩ := zg_showns n (show ds.all (zg L n) = true from h)
    refine ⟨by simpa [PyData.showable] using h1, ?_, ?_⟩
    · show (tupleText (PyData.shownAll ds)).length ≤ wt (.tuple ds)
      unfold tupleText
      have := join_lenZ (PyData.shownAll ds)
      have e1 : ("(" : Str).length = 1 := by decide +kernel
      have e2 : (Str.ofString (if (PyData.shownAll ds).length == 1 then ",)" else ")")).length ≤ 2 := by split <;> decide +kernel
      rw [len2, len2]
      simp only [wt]
      omega
    · show PyData.strOk (tupleText (PyData.shownAll ds)) = true
      unfold tupleText
      exact strOk_append (strOk_append (by decide +kernel) (join_ok (by decide +kernel) h3)) (ofString_ok _)
theorem zg_showns {L : Nat} : ∀ (n : Nat) {ds : List PyData}, ds.all (zg L n) = true → PyData.showableAll ds = true ∧ piled (PyData.shownAll ds) ≤ wts ds ∧ ∀ t ∈ PyData.shownAll ds, PyData.strOk t = true
  | n, [], _ => ⟨rfl, Nat.le_refl _, fun t ht => by cases ht⟩
  | n, d :: ds, h => by
    rw [List.all_cons, Bool.and_eq_true] at h
    obtain ⟨a1, a2, a3⟩ := zg_shown n h.1
    obtain ⟨b1, b2, b3⟩ := zg_showns n h.2
    have ea : PyData.shownAll (d :: ds) = d.shown :: PyData.shownAll ds := rfl
    refine ⟨?_, ?_, ?_⟩
    · show (d.showable && PyData.showableAll ds) = true
      rw [a1, b1]; rfl
    · rw [ea, piled_cons]
      simp only [wts]; omega
    · rw [ea]
      intro t ht
      rcases List.mem_cons.mp ht with rfl | ht
      · exact a3
      · exact b3 t ht
end
theorem go_reprZ {L n : Nat} {d : PyData} (hn : n ≤ 60) (h : zg L n d = true) (hw : wt d ≤ 10000000) {O : Oh} {R : DK} (k : R (.d (.str d.shown)) O) : dReprZ [.d d] O R := by
  obtain ⟨h1, h2, h3⟩ := zg_shown n h
  exact ⟨zg_zk 60 (zg_le hn h), h1, by have : sizeLine = 16777216 := by decide
                                       omega, h3, k⟩
end Dl
namespace Dl
open PySem PySem.Spec PyProof.Rows L2
def w_is_stepZ : DFn := dDef 3 1 (
  (dSeq (dIf (dB (dOp dEqZ (dVar 0) (dTup (dCons (dC (.str "onward")) dNil))))
   (dRet (dC (.bool true)))
   dNext)
  (dSeq (dIf (dOr (dNot (dB (dIsi "tuple" (dVar 0)))) (dB (dOp dNe (dCB dLen (dCons (dVar 0) dNil)) (dC (.int 2)))))
   (dRet (dC (.bool false)))
   dNext)
  (dSeq (dAsg (dVar 0) (.tup [(.nm 1), (.nm 2)]))
  (dSeq (dIf (dB (dOp dEqZ (dVar 1) (dC (.str "ask"))))
   (dRet (dCall0 w_is_name (dCons (dVar 2) dNil)))
   dNext)
  (dSeq (dIf (dB (dOp dEqZ (dVar 1) (dC (.str "times"))))
   (dRet (dAndV (dCall0 w_is_whole (dCons (dVar 2) dNil)) (dChain dLe dLe (dNeg (dC (.int 9))) (dVar 2) (dC (.int 9)))))
   dNext)
  (dRet (dAndV (dOp dEqZ (dVar 1) (dC (.str "add"))) (dCall0 w_is_whole (dCons (dVar 2) dNil))))))))))
def w_are_stepsZ : DFn := dDef 2 1 (
  (dRet (dAndV (dIsi "tuple" (dVar 0)) (dAndV (dOp dLe (dCB dLen (dCons (dVar 0) dNil)) (dC (.int 4))) (dCB dAll (dCons (dLc (dSeqI (dVar 0)) (.nm 1) dYes (dCall0 w_is_stepZ (dCons (dVar 1) dNil)) [1]) dNil))))))
def w_is_entryZ : DFn := dDef 1 1 (
  (dSeq (dIf (dNot (dB (dIsi "tuple" (dVar 0))))
   (dRet (dC (.bool false)))
   dNext)
  (dSeq (dIf (dB (dOp dEq (dCB dLen (dCons (dVar 0) dNil)) (dC (.int 3))))
   (dRet (dAndV (dOp dEqZ (dOp dIx2 (dVar 0) (dC (.int 0))) (dC (.str "ahead"))) (dAndV (dCall0 w_is_name (dCons (dOp dIx2 (dVar 0) (dC (.int 1))) dNil)) (dCall0 w_is_whole (dCons (dOp dIx2 (dVar 0) (dC (.int 2))) dNil)))))
   dNext)
  (dSeq (dIf (dB (dOp dNe (dCB dLen (dCons (dVar 0) dNil)) (dC (.int 2))))
   (dRet (dC (.bool false)))
   dNext)
  (dSeq (dIf (dB (dOp dEqZ (dOp dIx2 (dVar 0) (dC (.int 0))) (dC (.str "plain"))))
   (dRet (dCall0 w_is_whole (dCons (dOp dIx2 (dVar 0) (dC (.int 1))) dNil)))
   dNext)
  (dRet (dAndV (dOp (dInZ false) (dOp dIx2 (dVar 0) (dC (.int 0))) (dTup (dCons (dC (.str "behind")) (dCons (dC (.str "shut")) dNil)))) (dCall0 w_are_stepsZ (dCons (dOp dIx2 (dVar 0) (dC (.int 1))) dNil)))))))))
def w__law_pathsF : DFn → DFn := fun rec => dDef 4 1 (
  (dSeq (dAsg (dLstC (dCons (dTup dNil) dNil)) (.nm 1))
  (dSeq (dIf (dB (dIsi2 "tuple" "list" (dVar 0)))
   (dFor (dRng1 (dCons (dCB dLen (dCons (dVar 0) dNil)) dNil)) (.nm 2)
    (dDrop (dBM isLstW dExtend (dVar 1) (dCons (dLc (dSeqI (dCall rec (dCons (dOp dIx2 (dVar 0) (dVar 2)) dNil))) (.nm 3) dYes (dOp dAdd (dTup (dCons (dVar 2) dNil)) (dVar 3)) [3]) dNil))))
   dNext)
  (dRet (dVar 1)))))
def w__law_paths : Nat → DFn
  | 0 => fun _ _ _ _ => False
  | n + 1 => w__law_pathsF (w__law_paths n)
def w__law_part : DFn := dDef 3 2 (
  (dSeq (dFor (dSeqI (dVar 1)) (.nm 2)
   (dAsg (dOp dIx2 (dVar 0) (dVar 2)) (.nm 0)))
  (dRet (dVar 0))))
def w__law_withF : DFn → DFn := fun rec => dDef 4 3 (
  (dSeq (dIf (dB (dOp dEq (dVar 1) (dTup dNil)))
   (dRet (dVar 2))
   dNext)
  (dSeq (dAsg (dCB dListC2 (dCons (dVar 0) dNil)) (.nm 3))
  (dSeq (dSetI (dVar 3) (dOp dIx2 (dVar 1) (dC (.int 0))) (dCall rec (dCons (dOp dIx2 (dVar 0) (dOp dIx2 (dVar 1) (dC (.int 0)))) (dCons (dSlice (dVar 1) (dO1 (dC (.int 1))) dO0) (dCons (dVar 2) dNil)))))
  (dSeq (dIf (dB (dIsi "tuple" (dVar 0)))
   (dRet (dCB dTupOf (dCons (dVar 3) dNil)))
   dNext)
  (dRet (dVar 3)))))))
def w__law_with : Nat → DFn
  | 0 => fun _ _ _ _ => False
  | n + 1 => w__law_withF (w__law_with n)
def w__law_odd : DFn := dDef 2 1 (
  (dSeq (dAsg (dCall0 w__law_digit (dCons (dVar 0) (dCons (dC (.int 24)) dNil))) (.nm 1))
  (dSeq (dIf (dB (dOp dLt2 (dVar 1) (dC (.int 6))))
   (dRet (dOp dIx2 (dLst (dCons (dC (.int 0)) (dCons (dC (.int 1)) (dCons (dNeg (dC (.int 9))) (dCons (dC (.int 9)) (dCons (dC (.int 10)) (dCons (dNeg (dC (.int 10))) dNil))))))) (dVar 1)))
   dNext)
  (dSeq (dIf (dB (dOp dLt2 (dVar 1) (dC (.int 14))))
   (dRet (dOp dIx2 (dLst (dCons (dC (.str "")) (dCons (dC (.str "onward")) (dCons (dC (.str "plain")) (dCons (dC (.str "shut")) (dCons (dC (.str "a")) (dCons (dC (.str "Ab")) (dCons (dC (.str "ninesigns")) (dCons (dC (.str "a b")) dNil))))))))) (dOp dSub (dVar 1) (dC (.int 6)))))
   dNext)
  (dSeq (dIf (dB (dOp dLt2 (dVar 1) (dC (.int 18))))
   (dRet (dOp dIx2 (dLst (dCons (dTup (dCons (dC (.str "onward")) dNil)) (dCons (dTup (dCons (dC (.str "add")) (dCons (dC (.int 1)) dNil))) (dCons (dTup (dCons (dC (.str "times")) (dCons (dC (.int 10)) dNil))) (dCons (dTup (dCons (dC (.str "ask")) (dCons (dC (.str "a")) dNil))) dNil))))) (dOp dSub (dVar 1) (dC (.int 14)))))
   dNext)
  (dSeq (dIf (dB (dOp dLt2 (dVar 1) (dC (.int 21))))
   (dRet (dOp dIx2 (dLst (dCons (dC .none) (dCons (dC (.bool true)) (dCons (dC (.bool false)) dNil)))) (dOp dSub (dVar 1) (dC (.int 18)))))
   dNext)
  (dRet (dOp dIx2 (dLst (dCons (dLst dNil) (dCons (dTup dNil) (dCons dDicE dNil)))) (dOp dSub (dVar 1) (dC (.int 21)))))))))))
def w__law_turned : DFn := dDef 6 3 (
  (dSeq (dIf (dB (dIsi2 "tuple" "list" (dVar 1)))
   (dSeq (dAsg (dCB dListC2 (dCons (dVar 1) dNil)) (.nm 3))
   (dSeq (dIf (dB (dOp dEq (dVar 2) (dC (.int 1))))
    (dDrop (dBM isLstW dInsert (dVar 3) (dCons (dCall0 w__law_digit (dCons (dVar 0) (dCons (dOp dAdd (dCB dLen (dCons (dVar 3) dNil)) (dC (.int 1))) dNil))) (dCons (dCall0 w__law_odd (dCons (dVar 0) dNil)) dNil))))
    (dIf (dAnd (dB (dOp dEq (dVar 2) (dC (.int 2)))) (dB (dOp dNeNil (dVar 3) (dLst dNil))))
     (dDrop (dBM isLstW dPopAt (dVar 3) (dCons (dCall0 w__law_digit (dCons (dVar 0) (dCons (dCB dLen (dCons (dVar 3) dNil)) dNil))) dNil)))
     (dIf (dB (dIsi "tuple" (dVar 1)))
      (dRet (dVar 3))
      dNext)))
   (dRet (dCB dTupOf (dCons (dVar 3) dNil)))))
   dNext)
  (dSeq (dIf (dB (dIsi "str" (dVar 1)))
   (dSeq (dAsg (dOp dIx2 (dC (.str "abcdefghijklmnopqrstuvwxyz09AZ_-`{ \n")) (dCall0 w__law_digit (dCons (dVar 0) (dCons (dC (.int 36)) dNil)))) (.nm 4))
   (dSeq (dAsg (dCall0 w__law_digit (dCons (dVar 0) (dCons (dOp dAdd (dCB dLen (dCons (dVar 1) dNil)) (dC (.int 1))) dNil))) (.nm 5))
   (dRet (dOp dAdd (dOp dAdd (dSlice (dVar 1) dO0 (dO1 (dVar 5))) (dOp dIx2 (dLst (dCons (dC (.str "")) (dCons (dVar 4) (dCons (dC (.str "")) (dCons (dVar 4) dNil))))) (dVar 2))) (dSlice (dVar 1) (dO1 (dOp dAdd (dVar 5) (dOp dIx2 (dLst (dCons (dC (.int 0)) (dCons (dC (.int 0)) (dCons (dC (.int 1)) (dCons (dC (.int 1)) dNil))))) (dVar 2)))) dO0)))))
   dNext)
  (dSeq (dIf (dAnd (dB (dIsi "int" (dVar 1))) (dNot (dB (dIsi "bool" (dVar 1)))))
   (dRet (dOp dIx2 (dLst (dCons (dVar 1) (dCons (dNeg (dVar 1)) (dCons (dOp dDiv (dVar 1) (dC (.int 7))) (dCons (dOp dEq (dVar 1) (dC (.int 1))) dNil))))) (dVar 2)))
   dNext)
  (dRet (dCall0 w__law_odd (dCons (dVar 0) dNil)))))))
def w__law_spoilt : DFn := dDef 5 2 (
  (dSeq (dAsg (dCall0 w__law_digit (dCons (dVar 0) (dCons (dC (.int 4)) dNil))) (.nm 2))
  (dSeq (dAsg (dCall (w__law_paths 40) (dCons (dVar 1) dNil)) (.nm 3))
  (dSeq (dAsg (dOp dIx2 (dVar 3) (dCall0 w__law_digit (dCons (dVar 0) (dCons (dCB dLen (dCons (dVar 3) dNil)) dNil)))) (.nm 4))
  (dSeq (dIf (dB (dOp dEq (dVar 2) (dC (.int 0))))
   (dRet (dCall (w__law_with 40) (dCons (dVar 1) (dCons (dVar 4) (dCons (dCall0 w__law_odd (dCons (dVar 0) dNil)) dNil)))))
   dNext)
  (dRet (dCall (w__law_with 40) (dCons (dVar 1) (dCons (dVar 4) (dCons (dCall0 w__law_turned (dCons (dVar 0) (dCons (dCall0 w__law_part (dCons (dVar 1) (dCons (dVar 4) dNil))) (dCons (dVar 2) dNil)))) dNil))))))))))
def w__law_is_nameB : DFn := dDef 2 1 (
  (dSeq (dIf (dOr (dNot (dB (dIsi "str" (dVar 0)))) (dNot (dB (dChain dLe dLe (dC (.int 1)) (dCB dLen (dCons (dVar 0) dNil)) (dC (.int 8))))))
   (dRet (dC (.bool false)))
   dNext)
  (dRet (dCB dAll (dCons (dLc (dStrI (dVar 0)) (.nm 1) dYes (dOp (dIn2 false) (dVar 1) (dC (.str "abcdefghijklmnopqrstuvwxyz"))) [1]) dNil)))))
def w__law_is_whole : DFn := dDef 1 1 (
  (dRet (dAndV (dIsi "int" (dVar 0)) (dNotV (dIsi "bool" (dVar 0))))))
def w__law_is_step : DFn := dDef 1 1 (
  (dSeq (dIf (dOr (dNot (dB (dIsi "tuple" (dVar 0)))) (dB (dOp dEqZ (dVar 0) (dTup dNil))))
   (dRet (dC (.bool false)))
   dNext)
  (dSeq (dIf (dB (dOp dEqZ (dOp dIx2 (dVar 0) (dC (.int 0))) (dC (.str "onward"))))
   (dRet (dOp dEq (dCB dLen (dCons (dVar 0) dNil)) (dC (.int 1))))
   dNext)
  (dSeq (dIf (dB (dOp dNe (dCB dLen (dCons (dVar 0) dNil)) (dC (.int 2))))
   (dRet (dC (.bool false)))
   dNext)
  (dSeq (dIf (dB (dOp dEqZ (dOp dIx2 (dVar 0) (dC (.int 0))) (dC (.str "ask"))))
   (dRet (dCall0 w__law_is_nameB (dCons (dOp dIx2 (dVar 0) (dC (.int 1))) dNil)))
   dNext)
  (dSeq (dIf (dB (dOp dEqZ (dOp dIx2 (dVar 0) (dC (.int 0))) (dC (.str "times"))))
   (dRet (dAndV (dCall0 w__law_is_whole (dCons (dOp dIx2 (dVar 0) (dC (.int 1))) dNil)) (dChain dLe dLe (dNeg (dC (.int 9))) (dOp dIx2 (dVar 0) (dC (.int 1))) (dC (.int 9)))))
   dNext)
  (dRet (dAndV (dOp dEqZ (dOp dIx2 (dVar 0) (dC (.int 0))) (dC (.str "add"))) (dCall0 w__law_is_whole (dCons (dOp dIx2 (dVar 0) (dC (.int 1))) dNil))))))))))
def w__law_is_entry : DFn := dDef 2 1 (
  (dSeq (dIf (dOr (dNot (dB (dIsi "tuple" (dVar 0)))) (dB (dOp (dIn2 true) (dCB dLen (dCons (dVar 0) dNil)) (dLst (dCons (dC (.int 2)) (dCons (dC (.int 3)) dNil))))))
   (dRet (dC (.bool false)))
   dNext)
  (dSeq (dIf (dB (dOp dEq (dCB dLen (dCons (dVar 0) dNil)) (dC (.int 3))))
   (dRet (dAndV (dOp dEqZ (dOp dIx2 (dVar 0) (dC (.int 0))) (dC (.str "ahead"))) (dAndV (dCall0 w__law_is_nameB (dCons (dOp dIx2 (dVar 0) (dC (.int 1))) dNil)) (dCall0 w__law_is_whole (dCons (dOp dIx2 (dVar 0) (dC (.int 2))) dNil)))))
   dNext)
  (dSeq (dIf (dB (dOp dEqZ (dOp dIx2 (dVar 0) (dC (.int 0))) (dC (.str "plain"))))
   (dRet (dCall0 w__law_is_whole (dCons (dOp dIx2 (dVar 0) (dC (.int 1))) dNil)))
   dNext)
  (dSeq (dIf (dOr (dB (dOp (dInZ true) (dOp dIx2 (dVar 0) (dC (.int 0))) (dLst (dCons (dC (.str "behind")) (dCons (dC (.str "shut")) dNil))))) (dOr (dNot (dB (dIsi "tuple" (dOp dIx2 (dVar 0) (dC (.int 1)))))) (dB (dOp dGt2 (dCB dLen (dCons (dOp dIx2 (dVar 0) (dC (.int 1))) dNil)) (dC (.int 4))))))
   (dRet (dC (.bool false)))
   dNext)
  (dRet (dCB dAll (dCons (dLc (dSeqI (dOp dIx2 (dVar 0) (dC (.int 1)))) (.nm 1) dYes (dCall0 w__law_is_step (dCons (dVar 1) dNil)) [1]) dNil))))))))
end Dl
namespace Dl
open PySem PySem.Spec PyProof.Rows L2
/-! ### entries looked at, whatever stands in their place, empty dicts too -/
theorem zg_sm {L n : Nat} {d : PyData} (hL : L ≤ 1000) (h : zg L n d = true) : sm d = true := by
  cases d with
  | dict kvs => rw [zg_dict h]; rfl
  | str s => exact decide_eq_true (Nat.le_trans (zg_str h).1 hL)
  | _ => rfl
theorem any_inB {ks : List Str} {d : PyData} : (ks.any fun b => PyData.eqv d (.str b)) = inB ks d := by
  cases d with
  | str s =>
    unfold inB
    induction ks with
    | nil => rfl
    | cons a ks ih =>
      rw [List.any_cons, ih, show PyData.eqv (.str s) (.str a) = (s == a) from by simp [PyData.eqv]]
      rw [Bool.eq_iff_iff]
      simp
  | _ =>
    unfold inB
    rw [List.any_eq_false]
    intro b _
    simp [PyData.eqv]
theorem sp_wholeZ {L n : Nat} {d : PyData} (hd : zg L n d = true) {O : Oh} {R : DK} {xe : Exn → Oh → Prop} (k : R (.d (.bool (wholeB d))) O) : w_is_whole [.d d] O R xe := by
  cases d with
  | dict kvs =>
    cases zg_dict hd
    refine def_start rfl fun n l cl => ?_
    repeat refine Go.h ?_
    exact k
  | _ =>
    refine def_start rfl fun n l cl => ?_
    repeat refine Go.h ?_
    exact k
theorem sp_stepZ {L n : Nat} {d : PyData} (hL : L ≤ 1000) (hd : zg L n d = true) {O : Oh} {R : DK} {xe : Exn → Oh → Prop} (k : R (.d (.bool (stepB d))) O) : w_is_stepZ [.d d] O R xe := by
  refine def_start rfl fun n' l cl => ?_
  unfold stepB at k
  repeat refine Go.h ?_
  refine go_eqZt rfl (zg_t1 hd) ?_
  repeat refine Go.h ?_
  cases e1 : PyData.eqv d (.tuple [.str "onward"]) with
  | true =>
    rw [if_pos e1] at k
    repeat refine Go.h ?_
    exact k
  | false =>
    rw [if_neg (by rw [e1]; exact Bool.false_ne_true)] at k
    cases d with
    | dict kvs =>
      cases zg_dict hd
      repeat refine Go.h ?_
      exact k
    | tuple ds =>
      have hds := (zg_tup hd).2
      repeat refine Go.h ?_
      have off : ∀ {b : Bool}, b = false → R (.d (.bool b)) O → R (.d (.bool false)) O := fun e h => e ▸ h
      match ds, hds, k with
      | [], _, k =>
        rw [decide_eq_true (by simp)]
        repeat refine Go.h ?_
        exact k
      | [_], _, k =>
        rw [decide_eq_true (by simp)]
        repeat refine Go.h ?_
        exact k
      | _ :: _ :: _ :: _, _, k =>
        rw [decide_eq_true (by simp; omega)]
        repeat refine Go.h ?_
        exact k
      | [a, b], hds, k =>
        have ha := hds a (by simp)
        have hb := hds b (by simp)
        dsimp only at k
        rw [decide_eq_false (by simp)]
        repeat refine Go.h ?_
        refine go_eqZs (zg_t0 ha) ?_
        repeat refine Go.h ?_
        cases e2 : PyData.eqv a (.str "ask") with
        | true =>
          rw [if_pos e2] at k
          repeat refine Go.h ?_
          refine sp_nameG (zg_sm hL hb) ?_
          repeat refine Go.h ?_
          exact k
        | false =>
          rw [if_neg (by rw [e2]; exact Bool.false_ne_true)] at k
          repeat refine Go.h ?_
          refine go_eqZs (zg_t0 ha) ?_
          repeat refine Go.h ?_
          cases e3 : PyData.eqv a (.str "times") with
          | true =>
            rw [if_pos e3] at k
            repeat refine Go.h ?_
            refine sp_wholeZ hb ?_
            cases b with
            | int i =>
              simp only [wholeB]
              repeat refine Go.h ?_
              unfold nineB at k
              dsimp only at k
              by_cases z : -9 ≤ i
              · rw [decide_eq_true z, Bool.true_and] at k
                rw [decide_eq_true z]
                repeat refine Go.h ?_
                exact k
              · rw [decide_eq_false z, Bool.false_and] at k
                rw [decide_eq_false z]
                repeat refine Go.h ?_
                exact k
            | _ =>
              simp only [wholeB]
              repeat refine Go.h ?_
              exact k
          | false =>
            rw [if_neg (by rw [e3]; exact Bool.false_ne_true)] at k
            repeat refine Go.h ?_
            refine go_eqZs (zg_t0 ha) ?_
            cases e4 : PyData.eqv a (.str "add") with
            | true =>
              rw [e4, Bool.true_and] at k
              repeat refine Go.h ?_
              refine sp_wholeZ hb ?_
              repeat refine Go.h ?_
              exact k
            | false =>
              rw [e4, Bool.false_and] at k
              repeat refine Go.h ?_
              exact k
    | _ =>
      repeat refine Go.h ?_
      exact k
theorem sp_stepsZ {L n : Nat} {d : PyData} (hL : L ≤ 1000) (hd : zg L n d = true) {O : Oh} {R : DK} {xe : Exn → Oh → Prop} (k : R (.d (.bool (stepsB d))) O) : w_are_stepsZ [.d d] O R xe := by
  cases d with
  | dict kvs =>
    cases zg_dict hd
    refine def_start rfl fun n' l cl => ?_
    repeat refine Go.h ?_
    exact k
  | tuple ds =>
    have hds := (zg_tup hd).2
    unfold stepsB at k
    dsimp only at k
    refine def_start rfl fun n' l cl => ?_
    repeat refine Go.h ?_
    by_cases z : ds.length ≤ 4
    · rw [if_pos z] at k
      rw [decide_eq_true (by simp; omega)]
      repeat refine Go.h ?_
      refine lc_W (fun d => .bool (stepB d)) trivial (by omega) (fun d hd C hC => ?_) ?_
      · repeat refine Go.h ?_
        refine sp_stepZ hL (hds d hd) ?_
        exact hC
      repeat refine Go.h ?_
      have e1 : (ds.map fun d => stepB d).all id = ds.all stepB := by rw [List.all_map]; rfl
      rw [e1]
      exact k
    · rw [if_neg z] at k
      rw [decide_eq_false (by simp; omega)]
      repeat refine Go.h ?_
      exact k
  | _ =>
    refine def_start rfl fun n' l cl => ?_
    repeat refine Go.h ?_
    exact k
theorem sp_entryZ {L n : Nat} {d : PyData} (hL : L ≤ 1000) (hd : zg L n d = true) {O : Oh} {R : DK} {xe : Exn → Oh → Prop} (k : R (.d (.bool (entryB d))) O) : w_is_entryZ [.d d] O R xe := by
  refine def_start rfl fun n' l cl => ?_
  unfold entryB at k
  cases d with
  | dict kvs =>
    cases zg_dict hd
    repeat refine Go.h ?_
    exact k
  | tuple ds =>
    have hds := (zg_tup hd).2
    match ds, hds, k with
    | [], _, k =>
      repeat refine Go.h ?_
      rw [decide_eq_false (by simp)]
      repeat refine Go.h ?_
      rw [decide_eq_true (by simp)]
      repeat refine Go.h ?_
      exact k
    | [_], _, k =>
      repeat refine Go.h ?_
      rw [decide_eq_false (by simp)]
      repeat refine Go.h ?_
      rw [decide_eq_true (by simp)]
      repeat refine Go.h ?_
      exact k
    | _ :: _ :: _ :: _ :: _, _, k =>
      repeat refine Go.h ?_
      rw [decide_eq_false (by simp; omega)]
      repeat refine Go.h ?_
      rw [decide_eq_true (by simp; omega)]
      repeat refine Go.h ?_
      exact k
    | [a, b], hds, k =>
      have ha := hds a (by simp)
      have hb := hds b (by simp)
      dsimp only at k
      repeat refine Go.h ?_
      rw [decide_eq_false (by simp)]
      repeat refine Go.h ?_
      rw [decide_eq_false (by simp)]
      repeat refine Go.h ?_
      refine go_eqZs (zg_t0 ha) ?_
      cases e2 : PyData.eqv a (.str "plain") with
      | true =>
        rw [if_pos e2] at k
        repeat refine Go.h ?_
        refine sp_wholeZ hb ?_
        repeat refine Go.h ?_
        exact k
      | false =>
        rw [if_neg (by rw [e2]; exact Bool.false_ne_true)] at k
        repeat refine Go.h ?_
        refine go_inZ (ks := ["behind", "shut"]) (.inl rfl) (zg_t0 ha) ?_
        rw [Bool.false_xor, any_inB]
        cases e3 : inB ["behind", "shut"] a with
        | true =>
          rw [e3, Bool.true_and] at k
          repeat refine Go.h ?_
          refine sp_stepsZ hL hb ?_
          repeat refine Go.h ?_
          exact k
        | false =>
          rw [e3, Bool.false_and] at k
          repeat refine Go.h ?_
          exact k
    | [a, b, c], hds, k =>
      have ha := hds a (by simp)
      have hb := hds b (by simp)
      have hc := hds c (by simp)
      dsimp only at k
      repeat refine Go.h ?_
      rw [decide_eq_true (by simp)]
      repeat refine Go.h ?_
      refine go_eqZs (zg_t0 ha) ?_
      cases e2 : PyData.eqv a (.str "ahead") with
      | true =>
        rw [e2, Bool.true_and] at k
        repeat refine Go.h ?_
        refine sp_nameG (zg_sm hL hb) ?_
        cases e3 : nmD b with
        | true =>
          rw [e3, Bool.true_and] at k
          repeat refine Go.h ?_
          refine sp_wholeZ hc ?_
          repeat refine Go.h ?_
          exact k
        | false =>
          rw [e3, Bool.false_and] at k
          repeat refine Go.h ?_
          exact k
      | false =>
        rw [e2, Bool.false_and] at k
        repeat refine Go.h ?_
        exact k
  | _ =>
    repeat refine Go.h ?_
    exact k
end Dl
namespace Dl
open PySem PySem.Spec PyProof.Rows L2
/-! ### entries looked at by the law -/
theorem sp_nameSB {s : Str} (hz : s.length ≤ 1000) {O : Oh} {R : DK} {xe : Exn → Oh → Prop} (k : R (.d (.bool (nmB s))) O) : w__law_is_nameB [.d (.str s)] O R xe := by
  refine def_start rfl fun n l cl => ?_
  repeat refine Go.h ?_
  refine go_lenS (by omega) ?_
  repeat refine Go.h ?_
  by_cases h1 : 1 ≤ s.length
  · rw [decide_eq_true (by omega)]
    repeat refine Go.h ?_
    by_cases h2 : s.length ≤ 8
    · rw [decide_eq_true (by omega)]
      repeat refine Go.h ?_
      refine lc_all PyData.str (fun z => .bool (strIn z LET)) trivial (by rw [chS_len]; show s.length ≤ _; omega) (fun z hz C hC => ?_) ?_
      · repeat refine Go.h ?_
        refine go_inStr ?_
        rw [if_neg Bool.false_ne_true]
        exact hC
      repeat refine Go.h ?_
      have e : ((chS s).map fun z => strIn z LET).all id = nmB s := by rw [nmB_on ⟨h1, h2⟩, List.all_map]; rfl
      rw [e]
      repeat refine Go.h ?_
      exact k
    · rw [decide_eq_false (by omega)]
      repeat refine Go.h ?_
      rw [nmB_off (fun h => h2 h.2)] at k
      exact k
  · rw [decide_eq_false (by omega)]
    repeat refine Go.h ?_
    rw [nmB_off (fun h => h1 h.1)] at k
    exact k
theorem sp_nameGB {d : PyData} (hd : sm d = true) {O : Oh} {R : DK} {xe : Exn → Oh → Prop} (k : R (.d (.bool (nmD d))) O) : w__law_is_nameB [.d d] O R xe := by
  cases d with
  | str s => exact sp_nameSB (sm_str hd) k
  | dict kvs =>
    cases sm_dict hd
    refine def_start rfl fun n l cl => ?_
    repeat refine Go.h ?_
    exact k
  | _ =>
    refine def_start rfl fun n l cl => ?_
    repeat refine Go.h ?_
    exact k
theorem sp_lwholeZ {L n : Nat} {d : PyData} (hd : zg L n d = true) {O : Oh} {R : DK} {xe : Exn → Oh → Prop} (k : R (.d (.bool (wholeB d))) O) : w__law_is_whole [.d d] O R xe := by
  cases d with
  | dict kvs =>
    cases zg_dict hd
    refine def_start rfl fun n l cl => ?_
    repeat refine Go.h ?_
    exact k
  | _ =>
    refine def_start rfl fun n l cl => ?_
    repeat refine Go.h ?_
    exact k
theorem eqv_is {a : PyData} {s : Str} (h : PyData.eqv a (.str s) = true) : a = .str s := by
  cases a with
  | str t => simp [PyData.eqv] at h; rw [h]
  | _ => simp [PyData.eqv] at h
theorem stepB_1 (a : PyData) : stepB (.tuple [a]) = PyData.eqv a (.str "onward") := by
  unfold stepB
  have e : PyData.eqv (.tuple [a]) (.tuple [.str "onward"]) = PyData.eqv a (.str "onward") := by simp [PyData.eqv, PyData.eqvAll]
  rw [e]
  cases PyData.eqv a (.str "onward") <;> rfl
theorem stepB_2 (a b : PyData) : stepB (.tuple [a, b]) = if PyData.eqv a (.str "ask") = true then nmD b else if PyData.eqv a (.str "times") = true then nineB b else PyData.eqv a (.str "add") && wholeB b := by
  unfold stepB
  have e : PyData.eqv (.tuple [a, b]) (.tuple [.str "onward"]) = false := by simp [PyData.eqv, PyData.eqvAll]
  rw [e]
  rfl
theorem stepB_no {d : PyData} (h : ∀ ds, d ≠ .tuple ds) : stepB d = false := by
  unfold stepB
  cases d with
  | tuple ds => exact absurd rfl (h ds)
  | _ => simp [PyData.eqv]
theorem stepB_3 (a b c : PyData) (r : List PyData) : stepB (.tuple (a :: b :: c :: r)) = false := by
  unfold stepB
  have e : PyData.eqv (.tuple (a :: b :: c :: r)) (.tuple [.str "onward"]) = false := by simp [PyData.eqv, PyData.eqvAll]
  rw [e]
  rfl
theorem eqv_nil (d : PyData) (ds : List PyData) : PyData.eqv (.tuple (d :: ds)) (.tuple []) = false := by simp [PyData.eqv, PyData.eqvAll]
theorem sp_lstepZ {L n : Nat} {d : PyData} (hL : L ≤ 1000) (hd : zg L n d = true) {O : Oh} {R : DK} {xe : Exn → Oh → Prop} (k : R (.d (.bool (stepB d))) O) : w__law_is_step [.d d] O R xe := by
  refine def_start rfl fun n' l cl => ?_
  cases d with
  | dict kvs =>
    cases zg_dict hd
    rw [stepB_no (by intro _ z; cases z)] at k
    repeat refine Go.h ?_
    exact k
  | tuple ds =>
    have hds := (zg_tup hd).2
    repeat refine Go.h ?_
    refine go_eqZt rfl (zg_t1 hd) ?_
    match ds, hds, k with
    | [], _, k =>
      rw [show PyData.eqv (.tuple []) (.tuple []) = true by simp [PyData.eqv, PyData.eqvAll]]
      repeat refine Go.h ?_
      exact k
    | [a], hds, k =>
      have ha := hds a (by simp)
      rw [eqv_nil]
      rw [stepB_1] at k
      repeat refine Go.h ?_
      refine go_eqZs (zg_t0 ha) ?_
      repeat refine Go.h ?_
      cases e2 : PyData.eqv a (.str "onward") with
      | true =>
        rw [e2] at k
        repeat refine Go.h ?_
        rw [decide_eq_true (by simp)]
        exact k
      | false =>
        rw [e2] at k
        repeat refine Go.h ?_
        rw [decide_eq_true (by simp)]
        repeat refine Go.h ?_
        exact k
    | a :: b :: c :: r, hds, k =>
      have ha := hds a (by simp)
      rw [eqv_nil]
      rw [stepB_3] at k
      repeat refine Go.h ?_
      refine go_eqZs (zg_t0 ha) ?_
      repeat refine Go.h ?_
      cases e2 : PyData.eqv a (.str "onward") with
      | true =>
        repeat refine Go.h ?_
        rw [decide_eq_false (by simp; omega)]
        exact k
      | false =>
        repeat refine Go.h ?_
        rw [decide_eq_true (by simp; omega)]
        repeat refine Go.h ?_
        exact k
    | [a, b], hds, k =>
      have ha := hds a (by simp)
      have hb := hds b (by simp)
      rw [eqv_nil]
      rw [stepB_2] at k
      repeat refine Go.h ?_
      refine go_eqZs (zg_t0 ha) ?_
      repeat refine Go.h ?_
      cases e1 : PyData.eqv a (.str "onward") with
      | true =>
        cases eqv_is e1
        repeat refine Go.h ?_
        rw [decide_eq_false (by simp)]
        rw [if_neg (by decide +kernel), if_neg (by decide +kernel), show PyData.eqv (.str "onward") (.str "add") = false by decide +kernel] at k
        exact k
      | false =>
        repeat refine Go.h ?_
        rw [decide_eq_false (by simp)]
        repeat refine Go.h ?_
        refine go_eqZs (zg_t0 ha) ?_
        repeat refine Go.h ?_
        cases e2 : PyData.eqv a (.str "ask") with
        | true =>
          rw [if_pos e2] at k
          repeat refine Go.h ?_
          refine sp_nameGB (zg_sm hL hb) ?_
          repeat refine Go.h ?_
          exact k
        | false =>
          rw [if_neg (by rw [e2]; exact Bool.false_ne_true)] at k
          repeat refine Go.h ?_
          refine go_eqZs (zg_t0 ha) ?_
          repeat refine Go.h ?_
          cases e3 : PyData.eqv a (.str "times") with
          | true =>
            rw [if_pos e3] at k
            repeat refine Go.h ?_
            refine sp_lwholeZ hb ?_
            cases b with
            | int i =>
              simp only [wholeB]
              repeat refine Go.h ?_
              unfold nineB at k
              dsimp only at k
              by_cases z : -9 ≤ i
              · rw [decide_eq_true z, Bool.true_and] at k
                rw [decide_eq_true z]
                repeat refine Go.h ?_
                exact k
              · rw [decide_eq_false z, Bool.false_and] at k
                rw [decide_eq_false z]
                repeat refine Go.h ?_
                exact k
            | _ =>
              simp only [wholeB]
              repeat refine Go.h ?_
              exact k
          | false =>
            rw [if_neg (by rw [e3]; exact Bool.false_ne_true)] at k
            repeat refine Go.h ?_
            refine go_eqZs (zg_t0 ha) ?_
            cases e4 : PyData.eqv a (.str "add") with
            | true =>
              rw [e4, Bool.true_and] at k
              repeat refine Go.h ?_
              refine sp_lwholeZ hb ?_
              repeat refine Go.h ?_
              exact k
            | false =>
              rw [e4, Bool.false_and] at k
              repeat refine Go.h ?_
              exact k
  | _ =>
    rw [stepB_no (by intro _ z; cases z)] at k
    repeat refine Go.h ?_
    exact k
theorem go_in23 {i : Nat} {b : Bool} {O : Oh} {R : DK} (hb : (!(decide (i = 2) || decide (i = 3))) = b) (h : R (.d (.bool b)) O) : dIn2 true (.d (.int (i : Nat))) (.d (.list [.int 2, .int 3])) O R := by
  refine in_of (x := .d (.int (i : Nat))) (d := .int (i : Nat)) (e := .list [.int 2, .int 3]) ⟨rfl⟩ (fun s z => by cases z) rfl rfl rfl rfl rfl ?_
  have e : (([.int 2, .int 3] : List PyData).any fun z => PyData.eqv z (.int (i : Nat))) = (decide (i = 2) || decide (i = 3)) := by
    rw [Bool.eq_iff_iff]
    simp [PyData.eqv]
    omega
  rw [e]
  rw [← hb] at h
  exact h
theorem sp_lentryZ {L n : Nat} {d : PyData} (hL : L ≤ 1000) (hd : zg L n d = true) {O : Oh} {R : DK} {xe : Exn → Oh → Prop} (k : R (.d (.bool (entryB d))) O) : w__law_is_entry [.d d] O R xe := by
  refine def_start rfl fun n' l cl => ?_
  cases d with
  | dict kvs =>
    cases zg_dict hd
    repeat refine Go.h ?_
    exact k
  | tuple ds =>
    have hds := (zg_tup hd).2
    repeat refine Go.h ?_
    match ds, hds, k with
    | [], _, k =>
      refine go_in23 (b := true) rfl ?_
      repeat refine Go.h ?_
      exact k
    | [_], _, k =>
      refine go_in23 (b := true) rfl ?_
      repeat refine Go.h ?_
      exact k
    | _ :: _ :: _ :: _ :: r, _, k =>
      refine go_in23 (b := true) (by simp) ?_
      repeat refine Go.h ?_
      exact k
    | [a, b], hds, k =>
      have ha := hds a (by simp)
      have hb := hds b (by simp)
      refine go_in23 (b := false) rfl ?_
      repeat refine Go.h ?_
      rw [decide_eq_false (by simp)]
      unfold entryB at k
      dsimp only at k
      repeat refine Go.h ?_
      refine go_eqZs (zg_t0 ha) ?_
      cases e2 : PyData.eqv a (.str "plain") with
      | true =>
        rw [if_pos e2] at k
        repeat refine Go.h ?_
        refine sp_lwholeZ hb ?_
        repeat refine Go.h ?_
        exact k
      | false =>
        rw [if_neg (by rw [e2]; exact Bool.false_ne_true)] at k
        repeat refine Go.h ?_
        refine go_inZ (ks := ["behind", "shut"]) (.inr rfl) (zg_t0 ha) ?_
        rw [Bool.true_xor, any_inB]
        cases e3 : inB ["behind", "shut"] a with
        | true =>
          rw [e3, Bool.true_and] at k
          rw [Bool.not_true]
          repeat refine Go.h ?_
          cases b with
          | dict kvs =>
            cases zg_dict hb
            repeat refine Go.h ?_
            exact k
          | tuple es =>
            have hes := (zg_tup hb).2
            unfold stepsB at k
            dsimp only at k
            repeat refine Go.h ?_
            by_cases z : es.length ≤ 4
            · rw [if_pos z] at k
              rw [decide_eq_false (by simp; omega)]
              repeat refine Go.h ?_
              refine lc_W (fun d => .bool (stepB d)) trivial (by omega) (fun d hd C hC => ?_) ?_
              · repeat refine Go.h ?_
                refine sp_lstepZ hL (hes d hd) ?_
                exact hC
              repeat refine Go.h ?_
              have e1 : (es.map fun d => stepB d).all id = es.all stepB := by rw [List.all_map]; rfl
              rw [e1]
              exact k
            · rw [if_neg z] at k
              rw [decide_eq_true (by simp; omega)]
              repeat refine Go.h ?_
              exact k
          | _ =>
            repeat refine Go.h ?_
            exact k
        | false =>
          rw [e3, Bool.false_and] at k
          rw [Bool.not_false]
          repeat refine Go.h ?_
          exact k
    | [a, b, c], hds, k =>
      have ha := hds a (by simp)
      have hb := hds b (by simp)
      have hc := hds c (by simp)
      unfold entryB at k
      dsimp only at k
      refine go_in23 (b := false) rfl ?_
      repeat refine Go.h ?_
      rw [decide_eq_true (by simp)]
      repeat refine Go.h ?_
      refine go_eqZs (zg_t0 ha) ?_
      cases e2 : PyData.eqv a (.str "ahead") with
      | true =>
        rw [e2, Bool.true_and] at k
        repeat refine Go.h ?_
        refine sp_nameGB (zg_sm hL hb) ?_
        cases e3 : nmD b with
        | true =>
          rw [e3, Bool.true_and] at k
          repeat refine Go.h ?_
          refine sp_lwholeZ hc ?_
          repeat refine Go.h ?_
          exact k
        | false =>
          rw [e3, Bool.false_and] at k
          repeat refine Go.h ?_
          exact k
      | false =>
        rw [e2, Bool.false_and] at k
        repeat refine Go.h ?_
        exact k
  | _ =>
    repeat refine Go.h ?_
    exact k
end Dl
namespace Dl
open PySem PySem.Spec PyProof.Rows L2
/-! ### the parts of a thing: their paths -/
def pathD (p : List Nat) : PyData := .tuple (p.map fun i => .int (i : Nat))
def pathOk : List Nat → PyData → Prop
  | [], _ => True
  | i :: p, .list ds => ∃ e, ds[i]? = some e ∧ pathOk p e
  | i :: p, .tuple ds => ∃ e, ds[i]? = some e ∧ pathOk p e
  | _ :: _, _ => False
theorem path_len {L : Nat} : ∀ (p : List Nat) {n : Nat} {d : PyData}, pathOk p d → zg L n d = true → p.length ≤ n
  | [], _, _, _, _ => Nat.zero_le _
  | i :: p, n, .list ds, h, z => by
    obtain ⟨e, he, h⟩ := h
    obtain ⟨h0, hz⟩ := zg_lst z
    have := path_len p h (hz e (List.mem_of_getElem? he))
    rw [List.length_cons]; omega
  | i :: p, n, .tuple ds, h, z => by
    obtain ⟨e, he, h⟩ := h
    obtain ⟨h0, hz⟩ := zg_tup z
    have := path_len p h (hz e (List.mem_of_getElem? he))
    rw [List.length_cons]; omega
  | _ :: _, _, .none, h, _ | _ :: _, _, .bool _, h, _ | _ :: _, _, .int _, h, _ | _ :: _, _, .str _, h, _ | _ :: _, _, .dict _, h, _ => h.elim
structure Paths (d : PyData) (ps : List (List Nat)) : Prop where
  pos : 0 < ps.length
  few : ps.length ≤ wt d
  ok : ∀ p ∈ ps, pathOk p d
theorem tak_wt {ds : List PyData} {k : Nat} {e : PyData} (h : ds[k]? = some e) : wts (ds.take (k + 1)) = wts (ds.take k) + (wt e + 2) := by
  have hl := (List.getElem?_eq_some_iff.mp h).1
  rw [← List.take_append_getElem hl, wts_app]
  have : ds[k] = e := Option.some.inj (by rw [← h, List.getElem?_eq_getElem hl])
  rw [this]
  simp [wts]
theorem sp_paths {L : Nat} : ∀ (m n : Nat) {d : PyData} {O : Oh} {R : DK} {xe : Exn → Oh → Prop}, m ≤ 900 → n ≤ m → zg L n d = true → wt d ≤ 900000 → (∀ ps, Paths d ps → R (.d (.list (ps.map pathD))) O) → w__law_paths (m + 1) [.d d] O R xe := by
  intro m
  induction m with
  | zero =>
    intro n d O R xe hmm hn hd hw k
    have e0 : n = 0 := by omega
    subst e0
    have leaf : (∀ ds, d ≠ .list ds) → (∀ ds, d ≠ .tuple ds) → R (.d (.list ([[]].map pathD))) O := fun _ _ => k [[]] ⟨by decide, by cases d <;> simp [wt] <;> omega, fun p hp => by rw [List.mem_singleton.mp hp]; trivial⟩
    refine def_start rfl fun n' l cl => ?_
    cases d with
    | list ds => cases hd
    | tuple ds => cases hd
    | dict kvs =>
      cases zg_dict hd
      have kk := leaf (by intro _ z; cases z) (by intro _ z; cases z)
      repeat refine Go.h ?_
      exact kk
    | _ =>
      have kk := leaf (by intro _ z; cases z) (by intro _ z; cases z)
      repeat refine Go.h ?_
      exact kk
  | succ m ih =>
    intro n d O R xe hmm hn hd hw k
    have leaf : (∀ ds, d ≠ .list ds) → (∀ ds, d ≠ .tuple ds) → R (.d (.list ([[]].map pathD))) O := fun _ _ => k [[]] ⟨by decide, by cases d <;> simp [wt] <;> omega, fun p hp => by rw [List.mem_singleton.mp hp]; trivial⟩
    refine def_start rfl fun n' l cl => ?_
    have seq : ∀ (ds : List PyData), (d = .list ds ∨ d = .tuple ds) → 0 < n ∧ (∀ e ∈ ds, zg L (n - 1) e = true) → wts ds + 2 ≤ wt d →
        forGo (fun _ => True) (.nm 2) (dDrop (dBM isLstW dExtend (dVar 1) (dCons (dLc (dSeqI (dCall (w__law_paths (m + 1)) (dCons (dOp dIx2 (dVar 0) (dVar 2)) dNil))) (.nm 3) dYes (dOp dAdd (dTup (dCons (dVar 2) dNil)) (dVar 3)) [3]) dNil)))
          ⟨fun Γ O' => dRet (dVar 1) ⟨fun x O' => Fin n' O' (R (W.d PyData.none)), dAns n' R, fun _ _ => False, fun _ _ => False⟩ (fun ex x O' => Fin n' O' (xe ex)) Γ O', dAns n' R, fun _ _ => False, fun _ _ => False⟩ (fun ex x O' => Fin n' O' (xe ex)) (rgW 0 ds.length)
          [some (.d d), some (.c (n' + 0)), none, none] (O ++ [.lst [.d (.tuple [])]]) := by
      intro ds hds hz hwd
      have hl := wts_len ds
      refine for_rng (fun k Γ S => ∃ ps : List (List Nat), ∃ a, Γ = [some (.d d), some (.c (n' + 0)), a, none] ∧ S = O ++ [.lst ((ps.map pathD).map W.d)] ∧ 0 < ps.length ∧ ps.length ≤ 1 + wts (ds.take k) ∧ ∀ p ∈ ps, pathOk p d)
        ⟨[[]], _, rfl, rfl, by decide, by simp, fun p hp => by rw [List.mem_singleton.mp hp]; trivial⟩ ?_ ?_
      · rintro Γ S ⟨ps, a, rfl, rfl, h1, h2, h3⟩
        rw [List.take_length] at h2
        have kk := k ps ⟨h1, by omega, h3⟩
        repeat refine Go.h ?_
        exact kk
      · rintro i Γ S hi ⟨ps, a, rfl, rfl, h1, h2, h3⟩ C hC
        have he : ds[i]? = some ds[i] := List.getElem?_eq_getElem hi
        have hm : ds[i] ∈ ds := List.getElem_mem hi
        have h4 := wts_mem hm
        have h5 := tak_wt he
        have h6 := wts_sub (List.take_sublist (i + 1) ds)
        have hix : ∀ {R' : DK} {O' : Oh}, R' (.d ds[i]) O' → dIx2 (.d d) (.d (.int (i : Nat))) O' R' := fun hR => by
          rcases hds with rfl | rfl
          · exact go_ix (atI_map he) hR
          · exact go_ix (atI_map he) hR
        repeat refine Go.h ?_
        refine hix ?_
        repeat refine Go.h ?_
        refine ih (n - 1) (by omega) (by omega) (hz.2 _ hm) (by omega) fun qs hq => ?_
        repeat refine Go.h ?_
        have hq2 := hq.few
        refine lc_mapD pathD (fun _ => true) (fun p => pathD (i :: p)) trivial (by omega) (fun p hp C2 hC2 => hC2) (fun p hp _ C2 hC2 => ?_) ?_
        · have hpl := path_len p (hq.ok p hp) (hz.2 _ hm)
          repeat refine Go.h ?_
          refine ⟨?_, ?_⟩
          · show 1 + (p.map _).length ≤ 1000000
            rw [List.length_map]; omega
          exact hC2
        rw [List.filter_eq_self.mpr fun _ _ => rfl]
        repeat refine Go.h ?_
        refine go_extendZ (ws' := ((ps ++ qs.map (i :: ·)).map pathD).map W.d) (by simp only [List.length_map]; omega) (by simp only [List.map_append, List.map_map]; rfl) ?_
        repeat refine Go.h ?_
        refine hC _ _ ⟨_, _, rfl, rfl, by simp; omega, by rw [List.length_append, List.length_map]; omega, fun p hp => ?_⟩
        rcases List.mem_append.mp hp with hp | hp
        · exact h3 p hp
        · obtain ⟨q, hq', rfl⟩ := List.mem_map.mp hp
          rcases hds with rfl | rfl
          · exact ⟨_, he, hq.ok q hq'⟩
          · exact ⟨_, he, hq.ok q hq'⟩
    cases d with
    | list ds =>
      have sq := seq ds (.inl rfl) (zg_lst hd) (by simp only [wt]; omega)
      have hl := wts_len ds
      simp only [wt] at hw
      repeat refine Go.h ?_
      refine go_rng (by simp; omega) ?_
      rw [List.length_map]
      repeat refine Go.h ?_
      exact sq
    | tuple ds =>
      have sq := seq ds (.inr rfl) (zg_tup hd) (by simp only [wt]; omega)
      have hl := wts_len ds
      simp only [wt] at hw
      repeat refine Go.h ?_
      refine go_rng (by simp; omega) ?_
      rw [List.length_map]
      repeat refine Go.h ?_
      exact sq
    | dict kvs =>
      cases zg_dict hd
      have kk := leaf (by intro _ z; cases z) (by intro _ z; cases z)
      repeat refine Go.h ?_
      exact kk
    | _ =>
      have kk := leaf (by intro _ z; cases z) (by intro _ z; cases z)
      repeat refine Go.h ?_
      exact kk
end Dl
namespace Dl
open PySem PySem.Spec PyProof.Rows L2
/-! ### a part of a thing; the thing with another part -/
def partD : List Nat → PyData → PyData
  | [], d => d
  | i :: p, .list ds => partD p (ds[i]?.getD .none)
  | i :: p, .tuple ds => partD p (ds[i]?.getD .none)
  | _ :: _, d => d
def withD : List Nat → PyData → PyData → PyData
  | [], _, x => x
  | i :: p, .list ds, x => .list (ds.set i (withD p (ds[i]?.getD .none) x))
  | i :: p, .tuple ds, x => .tuple (ds.set i (withD p (ds[i]?.getD .none) x))
  | _ :: _, d, _ => d
theorem part_ok {L : Nat} : ∀ (p : List Nat) {n : Nat} {d : PyData}, pathOk p d → zg L n d = true → zg L n (partD p d) = true ∧ wt (partD p d) ≤ wt d
  | [], _, _, _, z => ⟨z, Nat.le_refl _⟩
  | i :: p, n, .list ds, h, z => by
    obtain ⟨e, he, h⟩ := h
    obtain ⟨h0, hz⟩ := zg_lst z
    have hm := List.mem_of_getElem? he
    obtain ⟨a, b⟩ := part_ok p h (hz e hm)
    have := wts_mem hm
    unfold partD
    rw [he]
    refine ⟨zg_le (by omega) a, ?_⟩
    simp only [wt, Option.getD_some]; omega
  | i :: p, n, .tuple ds, h, z => by
    obtain ⟨e, he, h⟩ := h
    obtain ⟨h0, hz⟩ := zg_tup z
    have hm := List.mem_of_getElem? he
    obtain ⟨a, b⟩ := part_ok p h (hz e hm)
    have := wts_mem hm
    unfold partD
    rw [he]
    refine ⟨zg_le (by omega) a, ?_⟩
    simp only [wt, Option.getD_some]; omega
  | _ :: _, _, .none, h, _ | _ :: _, _, .bool _, h, _ | _ :: _, _, .int _, h, _ | _ :: _, _, .str _, h, _ | _ :: _, _, .dict _, h, _ => h.elim
theorem wts_set : ∀ {ds : List PyData} {i : Nat} {e y : PyData}, ds[i]? = some e → wts (ds.set i y) + wt e = wts ds + wt y
  | [], _, _, _, h => by simp at h
  | d :: ds, 0, e, y, h => by
    have : d = e := by simpa using h
    subst this
    simp only [List.set_cons_zero, wts]; omega
  | d :: ds, i + 1, e, y, h => by
    have := wts_set (ds := ds) (i := i) (y := y) (by simpa using h)
    simp only [List.set_cons_succ, wts]; omega
theorem with_ok {L : Nat} : ∀ (p : List Nat) {n m : Nat} {d x : PyData}, pathOk p d → zg L n d = true → zg L m x = true → zg L (n + m) (withD p d x) = true ∧ wt (withD p d x) ≤ wt d + wt x
  | [], _, _, _, _, _, z, y => ⟨zg_le (by omega) y, by unfold withD; omega⟩
  | i :: p, n, m, .list ds, x, h, z, y => by
    obtain ⟨e, he, h⟩ := h
    obtain ⟨h0, hz⟩ := zg_lst z
    have hm := List.mem_of_getElem? he
    obtain ⟨a, b⟩ := with_ok p h (hz e hm) y
    unfold withD
    rw [he, Option.getD_some]
    have hw := wts_set (y := withD p e x) he
    refine ⟨?_, by simp only [wt]; omega⟩
    rw [show n + m = (n - 1 + m) + 1 by omega]
    refine zg_lst_of fun d hd => ?_
    rcases List.mem_or_eq_of_mem_set hd with hd | rfl
    · exact zg_le (by omega) (hz d hd)
    · exact a
  | i :: p, n, m, .tuple ds, x, h, z, y => by
    obtain ⟨e, he, h⟩ := h
    obtain ⟨h0, hz⟩ := zg_tup z
    have hm := List.mem_of_getElem? he
    obtain ⟨a, b⟩ := with_ok p h (hz e hm) y
    unfold withD
    rw [he, Option.getD_some]
    have hw := wts_set (y := withD p e x) he
    refine ⟨?_, by simp only [wt]; omega⟩
    rw [show n + m = (n - 1 + m) + 1 by omega]
    refine zg_tup_of fun d hd => ?_
    rcases List.mem_or_eq_of_mem_set hd with hd | rfl
    · exact zg_le (by omega) (hz d hd)
    · exact a
  | _ :: _, _, _, .none, _, h, _, _ | _ :: _, _, _, .bool _, _, h, _, _ | _ :: _, _, _, .int _, _, h, _, _ | _ :: _, _, _, .str _, _, h, _, _ | _ :: _, _, _, .dict _, _, h, _, _ => h.elim
theorem sp_part {p : List Nat} {d : PyData} {O : Oh} {R : DK} {xe : Exn → Oh → Prop} (h : pathOk p d) (k : R (.d (partD p d)) O) : w__law_part [.d d, .d (pathD p)] O R xe := by
  generalize ht : partD p d = t at k
  refine def_start rfl fun n l cl => ?_
  repeat refine Go.h ?_
  show forGo _ _ _ _ _ ((p.map fun i : Nat => PyData.int (i : Nat)).map W.d) _ _
  refine for_mapD (fun i : Nat => PyData.int (i : Nat)) (fun q Γ S => ∃ c a, Γ = [some (.d c), some (.d (pathD p)), a] ∧ S = O ++ [] ∧ pathOk q c ∧ partD q c = t) ⟨d, _, rfl, rfl, h, ht⟩ ?_ ?_
  · rintro Γ S ⟨c, a, rfl, rfl, _, e⟩
    cases e
    repeat refine Go.h ?_
    exact k
  · rintro i q Γ S ⟨c, a, rfl, rfl, h1, e⟩ C hC
    repeat refine Go.h ?_
    cases c with
    | list ds =>
      obtain ⟨x, hx, h2⟩ := h1
      refine go_ix (atI_map hx) ?_
      repeat refine Go.h ?_
      refine hC _ _ ⟨x, _, rfl, rfl, h2, ?_⟩
      unfold partD at e
      rw [hx] at e
      exact e
    | tuple ds =>
      obtain ⟨x, hx, h2⟩ := h1
      refine go_ix (atI_map hx) ?_
      repeat refine Go.h ?_
      refine hC _ _ ⟨x, _, rfl, rfl, h2, ?_⟩
      unfold partD at e
      rw [hx] at e
      exact e
    | _ => exact h1.elim
theorem set_own1 {O : Oh} {n : Nat} {c c' : Cell} [l : Len O n] : (O ++ [c]).set (n + 0) c' = O ++ [c'] := by
  have h : O.length = n := l.e
  rw [Nat.add_zero, ← h, List.set_append_right _ _ (Nat.le_refl _), Nat.sub_self, List.set_cons_zero]
theorem shp_path (p : List Nat) : shp 40 (pathD p) = true := by
  show (p.map fun i : Nat => PyData.int (i : Nat)).all (shp 39) = true
  rw [List.all_eq_true]
  intro d hd
  obtain ⟨i, _, rfl⟩ := List.mem_map.mp hd
  rfl
theorem sp_with {L : Nat} : ∀ (p : List Nat) {m n : Nat} {d x : PyData} {O : Oh} {R : DK} {xe : Exn → Oh → Prop}, p.length ≤ m → pathOk p d → wt d ≤ 900000 → R (.d (withD p d x)) O → w__law_with (m + 1) [.d d, .d (pathD p), .d x] O R xe
  | [], m, n, d, x, O, R, xe, hm, h, hw, k => by
    refine def_start rfl fun n l cl => ?_
    repeat refine Go.h ?_
    refine ⟨shp_path [], rfl, ?_⟩
    rw [show PyData.eqv (pathD []) (.tuple []) = true by simp [pathD, PyData.eqv, PyData.eqvAll]]
    repeat refine Go.h ?_
    exact k
  | i :: p, 0, n, d, x, O, R, xe, hm, h, hw, k => by simp at hm
  | i :: p, m + 1, n, d, x, O, R, xe, hm, h, hw, k => by
    refine def_start rfl fun n l cl => ?_
    repeat refine Go.h ?_
    refine ⟨shp_path (i :: p), rfl, ?_⟩
    rw [show PyData.eqv (pathD (i :: p)) (.tuple []) = false by simp [pathD, PyData.eqv, PyData.eqvAll]]
    have h0 : ∀ {R' : DK} {O' : Oh}, R' (.d (.int (i : Nat))) O' → dIx2 (.d (pathD (i :: p))) (.d (.int 0)) O' R' := fun {R' O'} hR => by
      show dIx2 (.d (.tuple ((i :: p).map fun i : Nat => PyData.int (i : Nat)))) (.d (.int 0)) O' R'
      exact go_ix (atI_map (m := 0) rfl) hR
    have ep : ∀ {R' : DK} {O' : Oh}, R' (.d (pathD p)) O' → dSl (.d (pathD (i :: p))) (some 1) none O' R' := fun {R' O'} hR => by
      show R' (.d (.tuple (cutL ((i :: p).map fun i : Nat => PyData.int (i : Nat)) (some 1) none))) O'
      rw [show (some (1 : Int)) = some ((1 : Nat) : Int) from rfl, cut_drop]
      exact hR
    cases d with
    | list ds =>
      obtain ⟨e, he, h1⟩ := h
      have hl := (List.getElem?_eq_some_iff.mp he).1
      have hwl := wts_len ds
      have hwm := wts_mem (List.mem_of_getElem? he)
      simp only [wt] at hw
      unfold withD at k
      rw [he, Option.getD_some] at k
      repeat refine Go.h ?_
      refine h0 ?_
      repeat refine Go.h ?_
      refine go_ix (atI_map he) ?_
      repeat refine Go.h ?_
      refine ep ?_
      repeat refine Go.h ?_
      refine sp_with (L := L) p (m := m) (n := 0) (by simp at hm; omega) h1 (by omega) ?_
      repeat refine Go.h ?_
      refine h0 ?_
      repeat refine Go.h ?_
      refine putix_lst (m := i) (by rw [List.length_map]; exact ixN_nat hl) ?_
      rw [← List.map_set, set_own1]
      repeat refine Go.h ?_
      exact k
    | tuple ds =>
      obtain ⟨e, he, h1⟩ := h
      have hl := (List.getElem?_eq_some_iff.mp he).1
      have hwl := wts_len ds
      have hwm := wts_mem (List.mem_of_getElem? he)
      simp only [wt] at hw
      unfold withD at k
      rw [he, Option.getD_some] at k
      repeat refine Go.h ?_
      refine h0 ?_
      repeat refine Go.h ?_
      refine go_ix (atI_map he) ?_
      repeat refine Go.h ?_
      refine ep ?_
      repeat refine Go.h ?_
      refine sp_with (L := L) p (m := m) (n := 0) (by simp at hm; omega) h1 (by omega) ?_
      repeat refine Go.h ?_
      refine h0 ?_
      repeat refine Go.h ?_
      refine putix_lst (m := i) (by rw [List.length_map]; exact ixN_nat hl) ?_
      rw [← List.map_set, set_own1]
      repeat refine Go.h ?_
      exact k
    | _ => exact h.elim
/-! #### spoils -/
def OddZ (v : PyData) : Prop := zg 9 1 v = true ∧ wt v ≤ 400
theorem odd_draw {p : Nat} : Draws p w__law_odd [.c p] OddZ := by
  intro O R xe hp h
  refine def_start rfl fun n l cl => ?_
  have pt := Pt.start hp l cl
  have good : ∀ {xs : List PyData} {i : Nat}, (xs.all fun v => zg 9 1 v && decide (wt v ≤ 400)) = true → i < xs.length → ∃ v, atI (xs.map W.d) (i : Nat) = some (.d v) ∧ OddZ v := fun {xs i} ha hi => by
    refine ⟨xs[i], atI_map (List.getElem?_eq_getElem hi), ?_⟩
    have := List.all_eq_true.mp ha _ (List.getElem_mem hi)
    rw [Bool.and_eq_true, decide_eq_true_eq] at this
    exact this
  repeat refine Go.h ?_
  refine digit_at (by decide) (by decide) pt fun d0 O2 hd0 pt => ?_
  haveI := pt.l
  haveI := pt.c
  repeat refine Go.h ?_
  refine dcase (fun z => ?_) (fun z0 => ?_)
  · obtain ⟨v, e, hv⟩ := good (xs := [.int 0, .int 1, .int (-9), .int 9, .int 10, .int (-10)]) (i := d0) (by decide +kernel) (by simp; omega)
    repeat refine Go.h ?_
    refine go_ix e ?_
    repeat refine Go.h ?_
    exact h _ _ hv pt.chg
  repeat refine Go.h ?_
  refine dcase (fun z => ?_) (fun z1 => ?_)
  · obtain ⟨v, e, hv⟩ := good (xs := [.str "", .str "onward", .str "plain", .str "shut", .str "a", .str "Ab", .str "ninesigns", .str "a b"]) (i := d0 - 6) (by decide +kernel) (by simp; omega)
    repeat refine Go.h ?_
    rw [show (d0 : Int) - 6 = ((d0 - 6 : Nat) : Int) by omega]
    refine go_ix e ?_
    repeat refine Go.h ?_
    exact h _ _ hv pt.chg
  repeat refine Go.h ?_
  refine dcase (fun z => ?_) (fun z2 => ?_)
  · obtain ⟨v, e, hv⟩ := good (xs := [.tuple [.str "onward"], .tuple [.str "add", .int 1], .tuple [.str "times", .int 10], .tuple [.str "ask", .str "a"]]) (i := d0 - 14) (by decide +kernel) (by simp; omega)
    repeat refine Go.h ?_
    rw [show (d0 : Int) - 14 = ((d0 - 14 : Nat) : Int) by omega]
    refine go_ix e ?_
    repeat refine Go.h ?_
    exact h _ _ hv pt.chg
  repeat refine Go.h ?_
  refine dcase (fun z => ?_) (fun z3 => ?_)
  · obtain ⟨v, e, hv⟩ := good (xs := [.none, .bool true, .bool false]) (i := d0 - 18) (by decide +kernel) (by simp; omega)
    repeat refine Go.h ?_
    rw [show (d0 : Int) - 18 = ((d0 - 18 : Nat) : Int) by omega]
    refine go_ix e ?_
    repeat refine Go.h ?_
    exact h _ _ hv pt.chg
  obtain ⟨v, e, hv⟩ := good (xs := [.list [], .tuple [], .dict []]) (i := d0 - 21) (by decide +kernel) (by simp; omega)
  repeat refine Go.h ?_
  rw [show (d0 : Int) - 21 = ((d0 - 21 : Nat) : Int) by omega]
  refine go_ix e ?_
  repeat refine Go.h ?_
  exact h _ _ hv pt.chg
end Dl
namespace Dl
open PySem PySem.Spec PyProof.Rows L2
/-! ### a thing spoilt -/
theorem sign_at {d : Nat} (h : d < 36) : ∃ c, c < 1114112 ∧ atI ("abcdefghijklmnopqrstuvwxyz09AZ_-`{ \n" : Str).cps.toList (d : Nat) = some c := by
  have hl : d < ("abcdefghijklmnopqrstuvwxyz09AZ_-`{ \n" : Str).cps.toList.length := by
    have : ("abcdefghijklmnopqrstuvwxyz09AZ_-`{ \n" : Str).cps.toList.length = 36 := by decide +kernel
    omega
  have ha : ∀ c ∈ ("abcdefghijklmnopqrstuvwxyz09AZ_-`{ \n" : Str).cps.toList, c < 1114112 := by decide +kernel
  exact ⟨_, ha _ (List.getElem_mem hl), atI_nat (List.getElem?_eq_getElem hl)⟩
theorem divW7 (i : Int) : CDivW i 7 := by
  refine ⟨by decide, ?_⟩
  decide
theorem erase_sub {ds : List PyData} (i : Nat) : (ds.eraseIdx i).Sublist ds := List.eraseIdx_sublist ds i
theorem int_div {i : Int} (h : i.natAbs ≤ 10 ^ 19) : (i / 7).natAbs ≤ 10 ^ 19 := by
  have := Int.natAbs_ediv_le_natAbs i 7
  omega
structure TurnZ (L n : Nat) (d v : PyData) : Prop where
  zg : zg (L + 1) (n + 2) v = true
  wt : wt v ≤ wt d + 450
theorem turned_draw {p L n w : Nat} {d : PyData} (hL : 9 ≤ L) (hLz : L ≤ 900) (hd : zg L n d = true) (hw : wt d ≤ 900000) (h0 : 1 ≤ w) (h3 : w ≤ 3) : Draws p w__law_turned [.c p, .d d, .d (.int (w : Nat))] fun v => TurnZ L n d v := by
  intro O R xe hp k
  refine def_start rfl fun m l cl => ?_
  have pt := Pt.start hp l cl
  have hodd : ∀ {v : PyData}, OddZ v → TurnZ L n d v := fun hv => ⟨zg_L (by omega) _ (zg_le (by omega) hv.1), by have := hv.2; omega⟩
  cases d with
  | tuple ds =>
    obtain ⟨n0, hds⟩ := zg_tup hd
    have hl := wts_len ds
    simp only [wt] at hw
    have up : ∀ e ∈ ds, zg (L + 1) (n + 1) e = true := fun e he => zg_L (by omega) _ (zg_le (by omega) (hds e he))
    repeat refine Go.h ?_
    have hw' : w = 1 ∨ w = 2 ∨ w = 3 := by omega
    rcases hw' with rfl | rfl | rfl
    · rw [decide_eq_true (by decide)]
      repeat refine Go.h ?_
      rw [List.length_map, show (ds.length : Int) + 1 = ((ds.length + 1 : Nat) : Int) by omega]
      refine digit_at (by omega) (by omega) pt fun d0 O2 hd0 pt => ?_
      haveI := pt.l
      haveI := pt.c
      repeat refine Go.h ?_
      refine pt_call odd_draw pt fun v O3 hv pt => ?_
      haveI := pt.l
      haveI := pt.c
      repeat refine Go.h ?_
      refine go_insert (ws' := (ds.take d0 ++ [v] ++ ds.drop d0).map W.d) (by simp only [List.length_map]; omega) (by omega) (by simp [List.map_take, List.map_drop]) ?_
      repeat refine Go.h ?_
      refine k _ _ ⟨zg_tup_of fun e he => ?_, ?_⟩ pt.chg
      · rcases List.mem_append.mp he with he | he
        · rcases List.mem_append.mp he with he | he
          · exact up e (List.mem_of_mem_take he)
          · rw [List.mem_singleton.mp he]; exact zg_L (by omega) _ (zg_le (by omega) hv.1)
        · exact up e (List.mem_of_mem_drop he)
      · have e1 : wts ds = wts (ds.take d0) + wts (ds.drop d0) := by rw [← wts_app, List.take_append_drop]
        have := hv.2
        simp only [wt, wts_app, wts]; omega
    · rw [decide_eq_false (by decide)]
      repeat refine Go.h ?_
      rw [decide_eq_true (by decide)]
      repeat refine Go.h ?_
      refine go_neNil ?_
      cases ds with
      | nil =>
        rw [show (!(([] : List PyData).map W.d).isEmpty) = false from rfl]
        repeat refine Go.h ?_
        refine k _ _ ⟨zg_L (by omega) _ (zg_le (n := n + 2) (by omega) (zg_lst_of (n := 0) (L := L) (ds := []) nofun)), by simp only [wt]; omega⟩ pt.chg
      | cons x xs =>
        rw [show (!((x :: xs).map W.d).isEmpty) = true from rfl]
        repeat refine Go.h ?_
        rw [List.length_map]
        have hl2 : (x :: xs).length = xs.length + 1 := rfl
        refine digit_at (by omega) (by omega) pt fun d0 O2 hd0 pt => ?_
        haveI := pt.l
        haveI := pt.c
        have hd1 : d0 < (x :: xs).length := by omega
        repeat refine Go.h ?_
        refine go_popAt (ws' := ((x :: xs).eraseIdx d0).map W.d) (y := W.d (x :: xs)[d0]) (by rw [List.length_map]; omega) (by rw [List.length_map]; exact ixN_nat hd1) (by rw [List.getElem?_map, List.getElem?_eq_getElem hd1]; rfl) (map_erase W.d _ _).symm ?_
        repeat refine Go.h ?_
        have sb := erase_sub (ds := x :: xs) d0
        refine k _ _ ⟨zg_tup_of fun e he => up e (sb.subset he), ?_⟩ pt.chg
        have := wts_sub sb
        simp only [wt]; omega
    · rw [decide_eq_false (by decide)]
      repeat refine Go.h ?_
      rw [decide_eq_false (by decide)]
      repeat refine Go.h ?_
      exact k _ _ ⟨zg_lst_of up, by simp only [wt]; omega⟩ pt.chg
  | list ds =>
    obtain ⟨n0, hds⟩ := zg_lst hd
    have hl := wts_len ds
    simp only [wt] at hw
    have up : ∀ e ∈ ds, zg (L + 1) (n + 1) e = true := fun e he => zg_L (by omega) _ (zg_le (by omega) (hds e he))
    repeat refine Go.h ?_
    have hw' : w = 1 ∨ w = 2 ∨ w = 3 := by omega
    rcases hw' with rfl | rfl | rfl
    · rw [decide_eq_true (by decide)]
      repeat refine Go.h ?_
      rw [List.length_map, show (ds.length : Int) + 1 = ((ds.length + 1 : Nat) : Int) by omega]
      refine digit_at (by omega) (by omega) pt fun d0 O2 hd0 pt => ?_
      haveI := pt.l
      haveI := pt.c
      repeat refine Go.h ?_
      refine pt_call odd_draw pt fun v O3 hv pt => ?_
      haveI := pt.l
      haveI := pt.c
      repeat refine Go.h ?_
      refine go_insert (ws' := (ds.take d0 ++ [v] ++ ds.drop d0).map W.d) (by simp only [List.length_map]; omega) (by omega) (by simp [List.map_take, List.map_drop]) ?_
      repeat refine Go.h ?_
      refine k _ _ ⟨zg_tup_of fun e he => ?_, ?_⟩ pt.chg
      · rcases List.mem_append.mp he with he | he
        · rcases List.mem_append.mp he with he | he
          · exact up e (List.mem_of_mem_take he)
          · rw [List.mem_singleton.mp he]; exact zg_L (by omega) _ (zg_le (by omega) hv.1)
        · exact up e (List.mem_of_mem_drop he)
      · have e1 : wts ds = wts (ds.take d0) + wts (ds.drop d0) := by rw [← wts_app, List.take_append_drop]
        have := hv.2
        simp only [wt, wts_app, wts]; omega
    · rw [decide_eq_false (by decide)]
      repeat refine Go.h ?_
      rw [decide_eq_true (by decide)]
      repeat refine Go.h ?_
      refine go_neNil ?_
      cases ds with
      | nil =>
        rw [show (!(([] : List PyData).map W.d).isEmpty) = false from rfl]
        repeat refine Go.h ?_
        refine k _ _ ⟨zg_L (by omega) _ (zg_le (n := n + 2) (by omega) (zg_tup_of (n := 0) (L := L) (ds := []) nofun)), by simp only [wt]; omega⟩ pt.chg
      | cons x xs =>
        rw [show (!((x :: xs).map W.d).isEmpty) = true from rfl]
        repeat refine Go.h ?_
        rw [List.length_map]
        have hl2 : (x :: xs).length = xs.length + 1 := rfl
        refine digit_at (by omega) (by omega) pt fun d0 O2 hd0 pt => ?_
        haveI := pt.l
        haveI := pt.c
        have hd1 : d0 < (x :: xs).length := by omega
        repeat refine Go.h ?_
        refine go_popAt (ws' := ((x :: xs).eraseIdx d0).map W.d) (y := W.d (x :: xs)[d0]) (by rw [List.length_map]; omega) (by rw [List.length_map]; exact ixN_nat hd1) (by rw [List.getElem?_map, List.getElem?_eq_getElem hd1]; rfl) (map_erase W.d _ _).symm ?_
        repeat refine Go.h ?_
        have sb := erase_sub (ds := x :: xs) d0
        refine k _ _ ⟨zg_tup_of fun e he => up e (sb.subset he), ?_⟩ pt.chg
        have := wts_sub sb
        simp only [wt]; omega
    · rw [decide_eq_false (by decide)]
      repeat refine Go.h ?_
      rw [decide_eq_false (by decide)]
      repeat refine Go.h ?_
      exact k _ _ ⟨zg_tup_of up, by simp only [wt]; omega⟩ pt.chg
  | str s =>
    obtain ⟨hs, ok⟩ := zg_str hd
    repeat refine Go.h ?_
    refine digit_at (by decide) (by decide) pt fun d0 O2 hd0 pt => ?_
    haveI := pt.l
    haveI := pt.c
    obtain ⟨c, hc, e0⟩ := sign_at (d := d0) (by omega)
    repeat refine Go.h ?_
    refine go_ixS (c := c) (by decide +kernel) e0 ?_
    repeat refine Go.h ?_
    refine go_lenS (by omega) ?_
    repeat refine Go.h ?_
    rw [show (s.length : Int) + 1 = ((s.length + 1 : Nat) : Int) by omega]
    refine digit_at (by omega) (by omega) pt fun d1 O3 hd1 pt => ?_
    haveI := pt.l
    haveI := pt.c
    repeat refine Go.h ?_
    refine go_slS (by omega) ?_
    have l1 := cutS_take5 s d1
    have o1 : PyData.strOk (cutS s none (some (d1 : Nat))) = true := strOk_cut ok
    generalize cutS s none (some (d1 : Nat)) = A at *
    repeat refine Go.h ?_
    obtain ⟨z, ez, hz1, hz2⟩ : ∃ z : Str, atI (([PyData.str "", .str (sg c), .str "", .str (sg c)] : List PyData).map W.d) (w : Nat) = some (.d (.str z)) ∧ z.length ≤ 1 ∧ PyData.strOk z = true := by
      have : w = 1 ∨ w = 2 ∨ w = 3 := by omega
      rcases this with rfl | rfl | rfl
      · exact ⟨sg c, rfl, Nat.le_refl _, strOk_sg hc⟩
      · exact ⟨"", rfl, by decide +kernel, by decide +kernel⟩
      · exact ⟨sg c, rfl, Nat.le_refl _, strOk_sg hc⟩
    refine go_ix ez ?_
    repeat refine Go.h ?_
    refine go_addS (by omega) ?_
    repeat refine Go.h ?_
    obtain ⟨j, ej, hj⟩ : ∃ j : Nat, atI (([PyData.int 0, .int 0, .int 1, .int 1] : List PyData).map W.d) (w : Nat) = some (.d (.int (j : Nat))) ∧ j ≤ 1 := by
      have : w = 1 ∨ w = 2 ∨ w = 3 := by omega
      rcases this with rfl | rfl | rfl
      · exact ⟨0, rfl, by omega⟩
      · exact ⟨1, rfl, by omega⟩
      · exact ⟨1, rfl, by omega⟩
    refine go_ix ej ?_
    repeat refine Go.h ?_
    rw [show (d1 : Int) + (j : Int) = ((d1 + j : Nat) : Int) by omega]
    refine go_slS (by omega) ?_
    have l2 := cutS_drop5 s (d1 + j)
    have o2 : PyData.strOk (cutS s (some ((d1 + j : Nat) : Int)) none) = true := strOk_cut ok
    generalize cutS s (some ((d1 + j : Nat) : Int)) none = B at *
    refine go_addS (by rw [len2]; omega) ?_
    repeat refine Go.h ?_
    refine k _ _ ⟨zg_str_of (by rw [len2, len2]; omega) (strOk_append (strOk_append o1 hz2) o2), ?_⟩ pt.chg
    simp only [wt, len2]; omega
  | int i =>
    have hi := zg_int hd
    repeat refine Go.h ?_
    refine ⟨divW7 i, ?_⟩
    repeat refine Go.h ?_
    obtain ⟨v, ev, hv⟩ : ∃ v, atI (([PyData.int i, .int (-i), .int (i / 7), .bool (decide (i = 1))] : List PyData).map W.d) (w : Nat) = some (.d v) ∧ TurnZ L n (.int i) v := by
      have : w = 1 ∨ w = 2 ∨ w = 3 := by omega
      rcases this with rfl | rfl | rfl
      · exact ⟨_, rfl, zg_int_of (by omega), by simp only [wt]; omega⟩
      · exact ⟨_, rfl, zg_int_of (int_div hi), by simp only [wt]; omega⟩
      · exact ⟨_, rfl, by cases n <;> rfl, by simp only [wt]; omega⟩
    refine go_ix ev ?_
    repeat refine Go.h ?_
    exact k _ _ hv pt.chg
  | dict kvs =>
    cases zg_dict hd
    repeat refine Go.h ?_
    refine pt_call odd_draw pt fun v O3 hv pt => ?_
    haveI := pt.l
    haveI := pt.c
    repeat refine Go.h ?_
    exact k _ _ (hodd hv) pt.chg
  | none =>
    repeat refine Go.h ?_
    refine pt_call odd_draw pt fun v O3 hv pt => ?_
    haveI := pt.l
    haveI := pt.c
    repeat refine Go.h ?_
    exact k _ _ (hodd hv) pt.chg
  | bool b =>
    repeat refine Go.h ?_
    refine pt_call odd_draw pt fun v O3 hv pt => ?_
    haveI := pt.l
    haveI := pt.c
    repeat refine Go.h ?_
    exact k _ _ (hodd hv) pt.chg
end Dl
namespace Dl
open PySem PySem.Spec PyProof.Rows L2
/-! ### entries, drawn: short and not deep; things spoilt -/
def StepZ (v : PyData) : Prop := zg 12 1 v = true ∧ wt v ≤ 170
def EntZ (v : PyData) : Prop := zg 12 3 v = true ∧ wt v ≤ 900 ∧ ∃ es, v = .tuple es
theorem nm_len {s : Str} (h : IsNm s) : s.length ≤ 12 := h.ok.2
theorem nm_strOk {s : Str} (h : IsNm s) : PyData.strOk s = true := strOk_cps.mpr fun c hc => by have := h.2.2 c hc; omega
theorem w_str (s : Str) {n : Nat} (h : s.length ≤ n) : wt (.str s) ≤ 10 * n + 2 := by simp only [wt]; omega
theorem wcons (d : PyData) (ds : List PyData) : wts (d :: ds) = wt d + 2 + wts ds := by simp only [wts]
theorem wnil : wts [] = 0 := by simp only [wts]
theorem wtup (ds : List PyData) : wt (.tuple ds) = 3 + wts ds := by simp only [wt]
theorem wint (i : Int) : wt (.int i) = 70 := by simp only [wt]
theorem zint {n L : Nat} {i : Int} (h : i.natAbs ≤ 10 ^ 18) : zg L n (.int i) = true := zg_int_of (Nat.le_trans h (by decide))
theorem ztup2 {L n : Nat} {a b : PyData} (h1 : zg L n a = true) (h2 : zg L n b = true) : zg L (n + 1) (.tuple [a, b]) = true := zg_tup_of fun d hd => by
  simp only [List.mem_cons, List.mem_nil_iff, or_false] at hd
  rcases hd with rfl | rfl
  · exact h1
  · exact h2
theorem ztup3 {L n : Nat} {a b c : PyData} (h1 : zg L n a = true) (h2 : zg L n b = true) (h3 : zg L n c = true) : zg L (n + 1) (.tuple [a, b, c]) = true := zg_tup_of fun d hd => by
  simp only [List.mem_cons, List.mem_nil_iff, or_false] at hd
  rcases hd with rfl | rfl | rfl
  · exact h1
  · exact h2
  · exact h3
theorem stepZ_add {i : Int} (h : i.natAbs ≤ 10 ^ 18) : StepZ (.tuple [.str "add", .int i]) := by
  have := w_str "add" (n := 3) (by decide +kernel)
  exact ⟨ztup2 (by decide +kernel) (zint h), by rw [wtup, wcons, wcons, wnil, wint]; omega⟩
theorem stepZ_times {i : Int} (h : -9 ≤ i ∧ i ≤ 9) : StepZ (.tuple [.str "times", .int i]) := by
  have := w_str "times" (n := 5) (by decide +kernel)
  exact ⟨ztup2 (by decide +kernel) (zint (by omega)), by rw [wtup, wcons, wcons, wnil, wint]; omega⟩
theorem stepZ_onward : StepZ (.tuple [.str "onward"]) := ⟨by decide +kernel, by decide +kernel⟩
theorem stepZ_ask {s : Str} (h : IsNm s) : StepZ (.tuple [.str "ask", .str s]) := by
  have h1 := w_str "ask" (n := 3) (by decide +kernel)
  have h2 := w_str s (nm_len h)
  exact ⟨ztup2 (by decide +kernel) (zg_str_of (nm_len h) (nm_strOk h)), by rw [wtup, wcons, wcons, wnil]; omega⟩
theorem entZ_plain {i : Int} (h : i.natAbs ≤ 10 ^ 18) : EntZ (.tuple [.str "plain", .int i]) := by
  have := w_str "plain" (n := 5) (by decide +kernel)
  exact ⟨ztup2 (by decide +kernel) (zint h), by rw [wtup, wcons, wcons, wnil, wint]; omega, _, rfl⟩
theorem entZ_ahead {i : Int} (h : i.natAbs ≤ 10 ^ 18) {s : Str} (hs : IsNm s) : EntZ (.tuple [.str "ahead", .str s, .int i]) := by
  have := w_str "ahead" (n := 5) (by decide +kernel)
  have := w_str s (nm_len hs)
  exact ⟨ztup3 (by decide +kernel) (zg_str_of (nm_len hs) (nm_strOk hs)) (zint h), by rw [wtup, wcons, wcons, wcons, wnil, wint]; omega, _, rfl⟩
theorem stepsZ_wt : ∀ {acc : List PyData}, (∀ v ∈ acc, StepZ v) → wts acc ≤ 172 * acc.length
  | [], _ => by rw [wnil]; omega
  | v :: acc, h => by
    have := (h v List.mem_cons_self).2
    have := stepsZ_wt (acc := acc) fun u hu => h u (List.mem_cons_of_mem _ hu)
    rw [wcons, List.length_cons]; omega
theorem entZ_steps {s : Str} {acc : List PyData} (hs : s = "behind" ∨ s = "shut") (ha : ∀ v ∈ acc, StepZ v) (hl : acc.length ≤ 4) : EntZ (.tuple [.str s, .tuple acc]) := by
  have h1 : s.length ≤ 6 ∧ PyData.strOk s = true := by rcases hs with rfl | rfl <;> decide +kernel
  have h2 := w_str s h1.1
  have h3 := stepsZ_wt ha
  exact ⟨ztup2 (zg_str_of (by omega) h1.2) (zg_tup_of fun v hv => (ha v hv).1), by rw [wtup, wcons, wcons, wnil, wtup]; omega, _, rfl⟩
theorem numberZ_draw {p : Nat} : Draws p w__law_number [.c p] fun v => ∃ i : Int, v = .int i ∧ i.natAbs ≤ 10 ^ 18 := by
  intro O R xe hp h
  refine def_start rfl fun n l cl => ?_
  have pt := Pt.start hp l cl
  repeat refine Go.h ?_
  refine digit_at (by decide) (by decide) pt fun d0 O2 hd0 pt => ?_
  haveI := pt.l
  haveI := pt.c
  repeat refine Go.h ?_
  refine ⟨⟨by decide, by decide, by decide⟩, ?_⟩
  repeat refine Go.h ?_
  refine ⟨.inl ⟨by decide, by decide⟩, ?_⟩
  repeat refine Go.h ?_
  refine digit_at (by decide) (by decide) pt fun d1 O3 hd1 pt => ?_
  haveI := pt.l
  haveI := pt.c
  repeat refine Go.h ?_
  refine ⟨⟨by decide, by decide, by decide⟩, ?_⟩
  repeat refine Go.h ?_
  refine digit_at (by decide) (by decide) pt fun d2 O4 hd2 pt => ?_
  haveI := pt.l
  haveI := pt.c
  have hi : ∃ i : Int, atI (([PyData.int ((d0 : Int) - 20), .int ((d0 : Int) - 20), .int 0, .int ((d1 : Int) - 10 ^ Int.toNat 18 + 1)] : List PyData).map W.d) (d2 : Nat) = some (.d (.int i)) ∧ i.natAbs ≤ 10 ^ 18 := by
    have : d2 = 0 ∨ d2 = 1 ∨ d2 = 2 ∨ d2 = 3 := by omega
    have e18 : (10 : Int) ^ Int.toNat 18 = 1000000000000000000 := by decide
    have hd1' : (d1 : Int) < 2 * 1000000000000000000 - 1 := hd1
    rw [e18]
    rcases this with rfl | rfl | rfl | rfl
    · exact ⟨_, rfl, by omega⟩
    · exact ⟨_, rfl, by omega⟩
    · exact ⟨_, rfl, by omega⟩
    · exact ⟨_, rfl, by omega⟩
  obtain ⟨i, hi, hib⟩ := hi
  repeat refine Go.h ?_
  refine go_ix hi ?_
  repeat refine Go.h ?_
  exact h _ _ ⟨_, rfl, hib⟩ pt.chg
theorem stepZ_draw {p : Nat} {xs : List Str} {k : Nat} (hx : 0 < xs.length) (hz : xs.length ≤ 1000) (low : ∀ s ∈ xs, IsNm s) : Draws p w__law_step [.c p, .d (lS xs), .d (.int k)] fun v => StepZ v := by
  intro O R xe hp h
  refine def_start rfl fun n l cl => ?_
  have pt := Pt.start hp l cl
  repeat refine Go.h ?_
  refine digit_at (by decide) (by decide) pt fun d0 O2 hd0 pt => ?_
  haveI := pt.l
  haveI := pt.c
  repeat refine Go.h ?_
  refine dcase (fun z => ?_) (fun z => ?_)
  · repeat refine Go.h ?_
    refine pt_call numberZ_draw pt fun v O3 ⟨i, ev, hi⟩ pt => ?_
    subst ev
    haveI := pt.l
    haveI := pt.c
    repeat refine Go.h ?_
    exact h _ _ (stepZ_add hi) pt.chg
  repeat refine Go.h ?_
  refine dcase (fun z => ?_) (fun z => ?_)
  · repeat refine Go.h ?_
    refine digit_at (by decide) (by decide) pt fun d1 O3 hd1 pt => ?_
    haveI := pt.l
    haveI := pt.c
    repeat refine Go.h ?_
    exact h _ _ (stepZ_times (by omega)) pt.chg
  repeat refine Go.h ?_
  refine dcase (fun z => ?_) (fun z => ?_)
  · repeat refine Go.h ?_
    exact h _ _ stepZ_onward pt.chg
  repeat (fail_if_success with_reducible show dIf _ _ _ _ _ _ _); refine Go.h ?_
  rw [show (k : Int) + 1 = ((k + 1 : Nat) : Int) by omega, cut_drop, ← List.map_drop]
  refine join_st (fun Γ' S => ∃ ys O3, Γ' = [some (.c p), some (.d (lS xs)), some (.d (.int k)), some (.d (.int d0)), some (.d (lS ys))] ∧ S = O3 ++ [] ∧ Pt p n O O3 ∧ 0 < ys.length ∧ ys.length ≤ 1000 ∧ ∀ s ∈ ys, s ∈ xs) ?_ ?_
  · intro C hC
    repeat refine Go.h ?_
    refine dcase (fun z => ?_) (fun z => ?_)
    · repeat refine Go.h ?_
      exact hC _ _ ⟨xs, _, rfl, rfl, pt, hx, hz, fun _ h => h⟩
    · have hy := List.length_pos_iff.mpr z
      repeat refine Go.h ?_
      refine digit_at (by decide) (by decide) pt fun d1 O3 hd1 pt => ?_
      repeat refine Go.h ?_
      refine dcase (fun z => ?_) (fun z => ?_)
      · repeat refine Go.h ?_
        exact hC _ _ ⟨xs, _, rfl, rfl, pt, hx, hz, fun _ h => h⟩
      · repeat refine Go.h ?_
        exact hC _ _ ⟨_, _, rfl, rfl, pt, hy, by rw [List.length_drop]; omega, fun s hs => List.mem_of_mem_drop hs⟩
  · rintro Γ S ⟨ys, O3, rfl, rfl, pt, hy, hz, hys⟩
    repeat refine Go.h ?_
    simp only [List.length_map]
    refine digit_at (by omega) (by omega) pt fun d2 O4 hd2 pt => ?_
    haveI := pt.l
    haveI := pt.c
    repeat refine Go.h ?_
    obtain ⟨s, hs, e⟩ := at_mem (xs := ys) (d := d2) (by omega)
    refine go_ix e ?_
    repeat refine Go.h ?_
    exact h _ _ (stepZ_ask (low s (hys s hs))) pt.chg
theorem entryZ_draw {p : Nat} {xs : List Str} {k : Nat} (hx : 0 < xs.length) (hz : xs.length ≤ 1000) (hk : k < 1000000) (low : ∀ s ∈ xs, IsNm s) : Draws p w__law_entry [.c p, .d (lS xs), .d (.int k)] EntZ := by
  intro O R xe hp h
  refine def_start rfl fun n l cl => ?_
  have pt := Pt.start hp l cl
  repeat refine Go.h ?_
  refine digit_at (by decide) (by decide) pt fun d0 O2 hd0 pt => ?_
  haveI := pt.l
  haveI := pt.c
  repeat refine Go.h ?_
  refine dcase (fun z => ?_) (fun z0 => ?_)
  · repeat refine Go.h ?_
    refine pt_call numberZ_draw pt fun v O3 ⟨i, ev, hi⟩ pt => ?_
    subst ev
    haveI := pt.l
    haveI := pt.c
    repeat refine Go.h ?_
    exact h _ _ (entZ_plain hi) pt.chg
  repeat refine Go.h ?_
  refine dcase (fun z => ?_) (fun z1 => ?_)
  · repeat refine Go.h ?_
    simp only [List.length_map]
    refine digit_at (by omega) (by omega) pt fun d1 O3 hd1 pt => ?_
    haveI := pt.l
    haveI := pt.c
    repeat refine Go.h ?_
    simp only [List.length_map]
    refine ⟨by omega, ?_⟩
    repeat refine Go.h ?_
    obtain ⟨s, hs, e⟩ := at_mem (xs := xs) (d := (k + 1 + d1) % xs.length) (Nat.mod_lt _ hx)
    rw [show ((k : Int) + 1 + (d1 : Int)) % (xs.length : Int) = (((k + 1 + d1) % xs.length : Nat) : Int) by push_cast; rfl]
    refine go_ix e ?_
    repeat refine Go.h ?_
    refine pt_call numberZ_draw pt fun v O3 ⟨i, ev, hi⟩ pt => ?_
    subst ev
    haveI := pt.l
    haveI := pt.c
    repeat refine Go.h ?_
    exact h _ _ (entZ_ahead hi (low s hs)) pt.chg
  repeat refine Go.h ?_
  refine digit_at (by decide) (by decide) pt fun d1 O3 hd1 pt => ?_
  haveI := pt.l
  haveI := pt.c
  repeat refine Go.h ?_
  refine go_rng (by omega) ?_
  repeat refine Go.h ?_
  refine lc_rng (fun k acc S => ∃ O4, S = O4 ++ [] ∧ Pt p n O O4 ∧ (∀ v ∈ acc, StepZ v) ∧ acc.length = k) ⟨_, rfl, pt, nofun, rfl⟩ ?_ ?_
  rotate_left
  · rintro k1 acc S hk1 ⟨O4, rfl, pt, ha, hl⟩ C2 N2 hC2 hN2
    repeat refine Go.h ?_
    refine pt_call (stepZ_draw hx hz low) pt fun v O3 hs pt => ?_
    refine hC2 _ _ (by omega) ⟨_, rfl, pt, ?_, by simp [hl]⟩
    intro u hu
    rcases List.mem_append.mp hu with hu | hu
    · exact ha u hu
    · rw [List.mem_singleton.mp hu]; exact hs
  · rintro acc S ⟨O4, rfl, pt, ha, hl⟩
    haveI := pt.l
    haveI := pt.c
    repeat refine Go.h ?_
    have hi : ∃ s : Str, (s = "behind" ∨ s = "shut") ∧ atI (([PyData.str "behind", .str "behind", .str "shut"] : List PyData).map W.d) ((d0 : Int) - 2) = some (.d (.str s)) := by
      have : d0 = 2 ∨ d0 = 3 ∨ d0 = 4 := by omega
      rcases this with rfl | rfl | rfl
      · exact ⟨_, .inl rfl, rfl⟩
      · exact ⟨_, .inl rfl, rfl⟩
      · exact ⟨_, .inr rfl, rfl⟩
    obtain ⟨s, hs, hi⟩ := hi
    refine go_ix hi ?_
    repeat refine Go.h ?_
    exact h _ _ (entZ_steps hs ha (by omega)) pt.chg
structure SpoiltZ (L n : Nat) (d v : PyData) : Prop where
  zg : zg (L + 1) (n + n + 2) v = true
  wt : wt v ≤ 2 * wt d + 450
theorem spoilt_draw {p L n : Nat} {d : PyData} (hL : 9 ≤ L) (hLz : L ≤ 900) (hn : n ≤ 39) (hd : zg L n d = true) (hw : wt d ≤ 900000) : Draws p w__law_spoilt [.c p, .d d] fun v => SpoiltZ L n d v := by
  intro O R xe hp k
  refine def_start rfl fun m l cl => ?_
  have pt := Pt.start hp l cl
  repeat refine Go.h ?_
  refine digit_at (by decide) (by decide) pt fun d0 O2 hd0 pt => ?_
  haveI := pt.l
  haveI := pt.c
  repeat refine Go.h ?_
  refine sp_paths 39 n (by omega) hn hd hw fun ps hps => ?_
  have hpf := hps.few
  have hpp := hps.pos
  repeat refine Go.h ?_
  simp only [List.length_map]
  refine digit_at (by omega) (by omega) pt fun d1 O3 hd1 pt => ?_
  haveI := pt.l
  haveI := pt.c
  have hd2 : d1 < ps.length := by omega
  repeat refine Go.h ?_
  refine go_ix (atI_map (d := pathD ps[d1]) (by rw [List.getElem?_map, List.getElem?_eq_getElem hd2]; rfl)) ?_
  have hok := hps.ok _ (List.getElem_mem hd2)
  generalize ps[d1] = q at *
  have hql := path_len q hok hd
  obtain ⟨z1, z2⟩ := part_ok q hok hd
  repeat refine Go.h ?_
  by_cases z : d0 = 0
  · subst z
    rw [decide_eq_true (by decide)]
    repeat refine Go.h ?_
    refine pt_call odd_draw pt fun v O4 hv pt => ?_
    haveI := pt.l
    haveI := pt.c
    repeat refine Go.h ?_
    obtain ⟨y1, y2⟩ := with_ok q (m := n + 2) hok (zg_L (Nat.le_succ L) _ hd) (zg_L (L := 9) (by omega) _ (zg_le (by omega) hv.1))
    refine sp_with (L := L) q (n := 0) (by omega) hok hw ?_
    repeat refine Go.h ?_
    exact k _ _ ⟨zg_le (by omega) y1, by have := hv.2; omega⟩ pt.chg
  · rw [decide_eq_false (by omega)]
    repeat refine Go.h ?_
    refine sp_part hok ?_
    repeat refine Go.h ?_
    refine pt_call (turned_draw hL hLz z1 (by omega) (by omega) (by omega)) pt fun v O4 hv pt => ?_
    haveI := pt.l
    haveI := pt.c
    repeat refine Go.h ?_
    obtain ⟨y1, y2⟩ := with_ok q hok (zg_L (Nat.le_succ L) _ hd) hv.zg
    refine sp_with (L := L) q (n := 0) (by omega) hok hw ?_
    repeat refine Go.h ?_
    exact k _ _ ⟨zg_le (by omega) y1, by have := hv.wt; omega⟩ pt.chg
end Dl
namespace Dl
open PySem PySem.Spec PyProof.Rows L2
def w_law : DFn := dDef 8 1 (
  (dSeq (dFor (dRng1 (dCons (dOp dAdd (dCB dMin (dCons (dCB dLen (dCons (dVar 0) dNil)) (dCons (dC (.int 40)) dNil))) (dC (.int 1))) dNil)) (.nm 1)
   (dSeq (dAsg (dCall0 w__law_pot (dCons (dVar 0) (dCons (dVar 1) dNil))) (.nm 2))
   (dSeq (dAsg (dCall0 w__law_digit (dCons (dVar 2) (dCons (dC (.int 3)) dNil))) (.nm 3))
   (dSeq (dAsg (dCall0 w__law_entry (dCons (dVar 2) (dCons (dCall0 w__law_names (dCons (dVar 2) (dCons (dC (.int 3)) dNil))) (dCons (dC (.int 0)) dNil)))) (.nm 4))
   (dSeq (dFor (dRng1 (dCons (dVar 3) dNil)) (.nm 5)
    (dAsg (dCall w__law_spoilt (dCons (dVar 2) (dCons (dVar 4) dNil))) (.nm 4)))
   (dSeq (dAsg (dCB dReprZ (dCons (dVar 4) dNil)) (.nm 6))
   (dSeq (dAsg (dCall0 w_is_entryZ (dCons (dVar 4) dNil)) (.nm 7))
   (dIf (dOr (dNot (dB (dIsi "bool" (dVar 7)))) (dOr (dB (dOp dNe (dVar 7) (dCall0 w__law_is_entry (dCons (dVar 4) dNil)))) (dB (dOp dNe (dCB dReprZ (dCons (dVar 4) dNil)) (dVar 6)))))
    (dRet (dC (.bool false)))
    dNext))))))))
  (dRet (dC (.bool true)))))
end Dl
namespace Dl
open PySem PySem.Spec PyProof.Rows L2
/-! ### k31 -/
theorem law_all {ns : List Int} {R : DK} {xe : Exn → Oh → Prop} {O : Oh} (h : ∀ O', R (.d (.bool true)) O') : w_law [.d (scr ns)] O R xe := by
  refine def_start rfl fun n l cl => ?_
  have ol := l.e
  repeat refine Go.h ?_
  generalize hc : (if (40 : Int) < ((List.map W.d (ns.map PyData.int)).length : Int) then (40 : Int) else ((List.map W.d (ns.map PyData.int)).length : Int)) = c
  have hcb : 0 ≤ c ∧ c ≤ 40 := by rw [← hc]; split <;> omega
  obtain ⟨c, rfl⟩ : ∃ c' : Nat, c = (c' : Int) := ⟨c.toNat, by omega⟩
  rw [show (c : Int) + 1 = ((c + 1 : Nat) : Int) by omega]
  refine go_rng (by omega) ?_
  repeat refine Go.h ?_
  refine for_rng (fun k Γ S => ∃ a1 a2 a3 a4 a5 a6 a7, Γ = [some (.d (scr ns)), a1, a2, a3, a4, a5, a6, a7] ∧ ∃ L, S = O ++ L) ⟨_, _, _, _, _, _, _, rfl, [], rfl⟩ ?_ ?_
  · rintro Γ S ⟨a1, a2, a3, a4, a5, a6, a7, rfl, L, rfl⟩
    repeat refine Go.h ?_
    exact h _
  · rintro k Γ S hk ⟨a1, a2, a3, a4, a5, a6, a7, rfl, L, rfl⟩ C hC
    generalize hB : O ++ L = B
    haveI : Len B B.length := ⟨rfl⟩
    have fin : ∀ x y, ∃ L', B ++ [potC x y] = O ++ L' := fun x y => ⟨L ++ [potC x y], by rw [← hB, List.append_assoc]⟩
    repeat refine Go.h ?_
    refine sp_pot (k := k) (by omega) fun x y okp => ?_
    repeat refine Go.h ?_
    refine draw_at (digit_draws (by decide) (by decide)) okp ?_
    rintro v x y ⟨d0, rfl, hd0⟩ okp
    repeat refine Go.h ?_
    refine draw_at (names_draw (m := 3) (by omega)) okp ?_
    rintro v x y ⟨ws, rfl, nw⟩ okp
    have hwl := nw.len
    repeat refine Go.h ?_
    refine draw_at (entryZ_draw (k := 0) (by omega) (by omega) (by omega) nw.low) okp ?_
    rintro v x y hv okp
    repeat refine Go.h ?_
    refine go_rng (by omega) ?_
    repeat refine Go.h ?_
    refine for_rng (fun j Γ S => ∃ (v : PyData) (x y : Int) (p : Nat), ∃ a5, Γ = [some (.d (scr ns)), some (.d (.int k)), some (.c B.length), some (.d (.int d0)), some (.d v), a5, a6, a7] ∧ S = B ++ [potC x y] ∧ PotOk x y ∧ 1 ≤ p ∧ p ≤ 2 ^ j ∧ zg (12 + j) (5 * p - 2) v = true ∧ wt v + 450 ≤ 1350 * p)
      ⟨v, x, y, 1, _, rfl, rfl, okp, by omega, by simp, hv.1, by have := hv.2.1; omega⟩ ?_ ?_
    · rintro Γ S ⟨v, x, y, p, a5, rfl, rfl, okp, hp1, hp2, hz, hw⟩
      have hp4 : p ≤ 4 := Nat.le_trans hp2 (show 2 ^ d0 ≤ 2 ^ 2 from Nat.pow_le_pow_right (by decide) (by omega))
      repeat refine Go.h ?_
      refine go_reprZ (by omega) hz (by omega) ?_
      repeat refine Go.h ?_
      refine sp_entryZ (by omega) hz ?_
      repeat refine Go.h ?_
      refine sp_lentryZ (by omega) hz ?_
      repeat refine Go.h ?_
      refine go_neSame (d := .bool (entryB v)) rfl ?_
      repeat refine Go.h ?_
      refine go_reprZ (by omega) hz (by omega) ?_
      repeat refine Go.h ?_
      rw [decide_eq_false (by simp)]
      repeat refine Go.h ?_
      exact hC _ _ ⟨_, _, _, _, _, _, _, rfl, fin _ _⟩
    · rintro j Γ S hj ⟨v, x, y, p, a5, rfl, rfl, okp, hp1, hp2, hz, hw⟩ C2 hC2
      have hp4 : p ≤ 2 := Nat.le_trans hp2 (show 2 ^ j ≤ 2 ^ 1 from Nat.pow_le_pow_right (by decide) (by omega))
      repeat refine Go.h ?_
      refine draw_at (spoilt_draw (by omega) (by omega) (by omega) hz (by omega)) okp ?_
      rintro v2 x y hv okp
      repeat refine Go.h ?_
      have h2 : 2 ^ (j + 1) = 2 * 2 ^ j := by rw [Nat.pow_succ, Nat.mul_comm]
      exact hC2 _ _ ⟨v2, x, y, 2 * p, _, rfl, rfl, okp, by omega, by omega, zg_le (by omega) hv.zg, by have := hv.wt; omega⟩
theorem law_true : ∀ (ns : List Int), ns.length ≤ 63 → ∀ (R : DK) (xe : Exn → Oh → Prop), (∀ O', R (.d (.bool true)) O') → w_law [.d (.dict [(.none, .list (ns.map PyData.int))])] [] R xe := fun ns _ R xe h => law_all h
end Dl
namespace Dl
open PySem PySem.Spec PyProof.Rows L2
def topS (i : Nat) : Stmt := PySem.Challenge.pw_parentlines_k31_entries_told_apart.main.body.getD i (.Pass ⟨0, 0, 0, 0⟩)
section
variable [TabsC] {P : Program} {w : World} {K : Fg} {mg : Str → Option Value} {base : Heap}
abbrev s_is_name : Stmt := topS 3
theorem sc_is_name : FnScope ["thing", "sign"] ["thing"] (defScope s_is_name) := ⟨rfl, rfl, rfl, by decide +kernel, rfl, by decide +kernel, by decide +kernel⟩
theorem ok_is_name {f : Addr} {fd : FuncData} (F : Fun K "is_name" "is_name" s_is_name f fd) (nb : NB mg) (C_LETTERS : ∃ t, mg "LETTERS" = some (.str "abcdefghijklmnopqrstuvwxyz" t)) (C_MOST_LETTERS : ∃ t, mg "MOST_LETTERS" = some (.int 8 t)) : FnOk P w K mg base (L2N.CX P w) 1 f fd ["thing"] (liftF K mg w_is_name) :=
  ok_def (k := 0) F sc_is_name fun cdv A outer s H E g =>
  (dss_cons (ds_if (DW.t (dw_or (dt_not (dt_val (de_isi (T := "str") (by simp) (by decide +kernel) nb.isinstance nb.str (de_var 0) (by decide +kernel)))) (dw_or1 (dt_not (dt_chain op_le s_le op_le s_le de_int (de_callB call_len3 s_len nb.len (by decide +kernel) (da_cons (de_var 0) da_nil)) (de_gint C_MOST_LETTERS))))))
   (dss_one (ds_ret de_bl))
   dss_nil)
  (dss_one (ds_ret (de_callB (cr_all g.calm) s_all nb.all (by decide +kernel) (da_cons (de_lc g (own := [("sign", 1)]) (.nm 1) (by decide) (di_str (de_var 0)) (blk_ok (by kernel_rfl)) (fun s H C cl fp => (pg_name (i := 1) g.nd rfl (by first | exact Or.inl rfl | exact Or.inr rfl))) (fun s H C cl fp g => dts_nil) (fun s H C cl fp g => (de_cmp (op_in5 g) s_in2 (de_var 1) (de_gstr C_LETTERS (by decide +kernel))))) da_nil)))))
abbrev s_is_whole : Stmt := topS 4
theorem sc_is_whole : FnScope ["thing"] ["thing"] (defScope s_is_whole) := ⟨rfl, rfl, rfl, by decide +kernel, rfl, by decide +kernel, by decide +kernel⟩
theorem ok_is_whole {f : Addr} {fd : FuncData} (F : Fun K "is_whole" "is_whole" s_is_whole f fd) (nb : NB mg) : FnOk P w K mg base (L2N.CX P w) 1 f fd ["thing"] (liftF K mg w_is_whole) :=
  ok_def (k := 0) F sc_is_whole fun cdv A outer s H E g =>
  (dss_one (ds_ret (de_and (de_isi (T := "int") (by simp) (by decide +kernel) nb.isinstance nb.int (de_var 0) (by decide +kernel)) (de_one (de_not (de_isi (T := "bool") (by simp) (by decide +kernel) nb.isinstance nb.bool (de_var 0) (by decide +kernel)))))))
abbrev s_is_step : Stmt := topS 8
theorem sc_is_step : FnScope ["thing", "word", "told"] ["thing"] (defScope s_is_step) := ⟨rfl, rfl, rfl, by decide +kernel, rfl, by decide +kernel, by decide +kernel⟩
theorem ok_is_step {f : Addr} {fd : FuncData} (F : Fun K "is_step" "is_step" s_is_step f fd) (nb : NB mg) (C_MOST_TIMES : ∃ t, mg "MOST_TIMES" = some (.int 9 t)) (T_is_name : Has P w K mg base "is_name" ["thing"] 1 w_is_name) (T_is_whole : Has P w K mg base "is_whole" ["thing"] 1 w_is_whole) : FnOk P w K mg base (L2N.CX P w) 2 f fd ["thing"] (liftF K mg w_is_stepZ) :=
  ok_def (k := 1) F sc_is_step fun cdv A outer s H E g =>
  (dss_cons (ds_if (dt_cmp (op_eqZ g) s_eqZ (de_var 0) (de_tup (da_cons de_str da_nil)))
   (dss_one (ds_ret de_bl))
   dss_nil)
  (dss_cons (ds_if (DW.t (dw_or (dt_not (dt_val (de_isi (T := "tuple") (by simp) (by decide +kernel) nb.isinstance nb.tuple (de_var 0) (by decide +kernel)))) (dw_or1 (dt_cmp (op_neG g) s_ne (de_callB call_len3 s_len nb.len (by decide +kernel) (da_cons (de_var 0) da_nil)) de_int))))
   (dss_one (ds_ret de_bl))
   dss_nil)
  (dss_cons (ds_asg (.tup [(.nm 1), (.nm 2)]) (de_var 0) (pg_tup g.calm (pgs_cons (pg_name (i := 1) g.nd rfl (by first | exact Or.inl rfl | exact Or.inr rfl)) (pgs_cons (pg_name (i := 2) g.nd rfl (by first | exact Or.inl rfl | exact Or.inr rfl)) pgs_nil))))
  (dss_cons (ds_if (dt_cmp (op_eqZ g) s_eqZ (de_var 1) de_str)
   (dss_one (ds_ret (de_call0 g T_is_name (by decide) (da_cons (de_var 2) da_nil))))
   dss_nil)
  (dss_cons (ds_if (dt_cmp (op_eqZ g) s_eqZ (de_var 1) de_str)
   (dss_one (ds_ret (de_and (de_call0 g T_is_whole (by decide) (da_cons (de_var 2) da_nil)) (de_one (de_chain op_le s_le op_le s_le (de_neg (de_gint C_MOST_TIMES)) (de_var 2) (de_gint C_MOST_TIMES))))))
   dss_nil)
  (dss_one (ds_ret (de_and (de_cmp (op_eqZ g) s_eqZ (de_var 1) de_str) (de_one (de_call0 g T_is_whole (by decide) (da_cons (de_var 2) da_nil)))))))))))
abbrev s_are_steps : Stmt := topS 9
theorem sc_are_steps : FnScope ["thing", "one"] ["thing"] (defScope s_are_steps) := ⟨rfl, rfl, rfl, by decide +kernel, rfl, by decide +kernel, by decide +kernel⟩
theorem ok_are_steps {f : Addr} {fd : FuncData} (F : Fun K "are_steps" "are_steps" s_are_steps f fd) (nb : NB mg) (C_MOST_STEPS : ∃ t, mg "MOST_STEPS" = some (.int 4 t)) (T_is_step : Has P w K mg base "is_step" ["thing"] 2 w_is_stepZ) : FnOk P w K mg base (L2N.CX P w) 3 f fd ["thing"] (liftF K mg w_are_stepsZ) :=
  ok_def (k := 2) F sc_are_steps fun cdv A outer s H E g =>
  (dss_one (ds_ret (de_and (de_isi (T := "tuple") (by simp) (by decide +kernel) nb.isinstance nb.tuple (de_var 0) (by decide +kernel)) (de_and (de_cmp op_le s_le (de_callB call_len3 s_len nb.len (by decide +kernel) (da_cons (de_var 0) da_nil)) (de_gint C_MOST_STEPS)) (de_one (de_callB (cr_all g.calm) s_all nb.all (by decide +kernel) (da_cons (de_lc g (own := [("one", 1)]) (.nm 1) (by decide) (di_seq (de_var 0)) (blk_ok (by kernel_rfl)) (fun s H C cl fp => (pg_name (i := 1) g.nd rfl (by first | exact Or.inl rfl | exact Or.inr rfl))) (fun s H C cl fp g => dts_nil) (fun s H C cl fp g => (de_call0 g T_is_step (by decide) (da_cons (de_var 1) da_nil)))) da_nil)))))))
abbrev s_is_entry : Stmt := topS 10
theorem sc_is_entry : FnScope ["thing"] ["thing"] (defScope s_is_entry) := ⟨rfl, rfl, rfl, by decide +kernel, rfl, by decide +kernel, by decide +kernel⟩
theorem ok_is_entry {f : Addr} {fd : FuncData} (F : Fun K "is_entry" "is_entry" s_is_entry f fd) (nb : NB mg) (T_are_steps : Has P w K mg base "are_steps" ["thing"] 3 w_are_stepsZ) (T_is_name : Has P w K mg base "is_name" ["thing"] 1 w_is_name) (T_is_whole : Has P w K mg base "is_whole" ["thing"] 1 w_is_whole) : FnOk P w K mg base (L2N.CX P w) 4 f fd ["thing"] (liftF K mg w_is_entryZ) :=
  ok_def (k := 3) F sc_is_entry fun cdv A outer s H E g =>
  (dss_cons (ds_if (dt_not (dt_val (de_isi (T := "tuple") (by simp) (by decide +kernel) nb.isinstance nb.tuple (de_var 0) (by decide +kernel))))
   (dss_one (ds_ret de_bl))
   dss_nil)
  (dss_cons (ds_if (dt_cmp (op_eqG g) s_eq (de_callB call_len3 s_len nb.len (by decide +kernel) (da_cons (de_var 0) da_nil)) de_int)
   (dss_one (ds_ret (de_and (de_cmp (op_eqZ g) s_eqZ (de_ix2 g (de_var 0) de_int) de_str) (de_and (de_call0 g T_is_name (by decide) (da_cons (de_ix2 g (de_var 0) de_int) da_nil)) (de_one (de_call0 g T_is_whole (by decide) (da_cons (de_ix2 g (de_var 0) de_int) da_nil)))))))
   dss_nil)
  (dss_cons (ds_if (dt_cmp (op_neG g) s_ne (de_callB call_len3 s_len nb.len (by decide +kernel) (da_cons (de_var 0) da_nil)) de_int)
   (dss_one (ds_ret de_bl))
   dss_nil)
  (dss_cons (ds_if (dt_cmp (op_eqZ g) s_eqZ (de_ix2 g (de_var 0) de_int) de_str)
   (dss_one (ds_ret (de_call0 g T_is_whole (by decide) (da_cons (de_ix2 g (de_var 0) de_int) da_nil))))
   dss_nil)
  (dss_one (ds_ret (de_and (de_cmp (op_in_Z (hu100 g.rm)) s_inZ (de_ix2 g (de_var 0) de_int) (de_tup (da_cons de_str (da_cons de_str da_nil)))) (de_one (de_call0 g T_are_steps (by decide) (da_cons (de_ix2 g (de_var 0) de_int) da_nil))))))))))
abbrev s__law_pot : Stmt := topS 12
theorem sc__law_pot : FnScope ["_law_script", "_law_k", "_law_cell"] ["_law_script", "_law_k"] (defScope s__law_pot) := ⟨rfl, rfl, rfl, by decide +kernel, rfl, by decide +kernel, by decide +kernel⟩
theorem ok__law_pot {f : Addr} {fd : FuncData} (F : Fun K "_law_pot" "_law_pot" s__law_pot f fd) (nb : NB mg) : FnOk P w K mg base (L2N.CX P w) 1 f fd ["_law_script", "_law_k"] (liftF K mg w__law_pot) :=
  ok_defC (k := 0) F sc__law_pot fun cdv A outer s H E g =>
  (dss_cons (ds_set g rfl (by first | exact Or.inl rfl | exact Or.inr rfl) de_int)
  (dss_cons (ds_if (dt_cmp (op_lt2 g) s_lt2 (de_var 1) (de_callB call_len3 s_len nb.len (by decide +kernel) (da_cons (de_var 0) da_nil)))
   (dss_one (ds_set g rfl (by first | exact Or.inl rfl | exact Or.inr rfl) (de_ix2 g (de_var 0) (de_var 1))))
   dss_nil)
  (dss_one (ds_ret (de_lstC (da_cons (de_callB (call_max2 g.calm) s_max nb.max (by decide +kernel) (da_cons de_int (da_cons (de_op op_sub s_sub (de_callB call_abs s_abs nb.abs (by decide +kernel) (da_cons (de_var 2) da_nil)) (de_op op_pow s_pow de_int de_int)) da_nil))) (da_cons (de_op op_add4 s_add (de_op op_add4 s_add (de_op op_mod s_mod (de_callB call_abs s_abs nb.abs (by decide +kernel) (da_cons (de_var 2) da_nil)) de_int) (de_op op_mul s_mul de_int (de_var 1))) de_int) da_nil)))))))
abbrev s__law_digit : Stmt := topS 13
theorem sc__law_digit : FnScope ["_law_pot_here", "_law_many", "_law_digit_here"] ["_law_pot_here", "_law_many"] (defScope s__law_digit) := ⟨rfl, rfl, rfl, by decide +kernel, rfl, by decide +kernel, by decide +kernel⟩
theorem ok__law_digit {f : Addr} {fd : FuncData} (F : Fun K "_law_digit" "_law_digit" s__law_digit f fd) (nb : NB mg) : FnOk P w K mg base (L2N.CX P w) 1 f fd ["_law_pot_here", "_law_many"] (liftF K mg w__law_digit) :=
  ok_def (k := 0) F sc__law_digit fun cdv A outer s H E g =>
  (dss_cons (ds_if (dt_cmp (op_gt2 g) s_gt2 (de_ix2 g (de_var 0) de_int) de_int)
   (dss_cons (ds_set g rfl (by first | exact Or.inl rfl | exact Or.inr rfl) (de_op op_mod s_mod (de_ix2 g (de_var 0) de_int) (de_var 1)))
   (dss_cons (ds_setI g (de_var 0) de_int (de_op op_fdivW s_div (de_ix2 g (de_var 0) de_int) (de_var 1)))
   (dss_one (ds_ret (de_var 2)))))
   dss_nil)
  (dss_cons (ds_setI g (de_var 0) de_int (de_op op_mod s_mod (de_op op_add4 s_add (de_op op_mul s_mul (de_ix2 g (de_var 0) de_int) de_int) de_int) de_int))
  (dss_one (ds_ret (de_op op_mod s_mod (de_op op_fdivW s_div (de_op op_mod s_mod (de_op op_mul s_mul (de_ix2 g (de_var 0) de_int) (de_ix2 g (de_var 0) de_int)) de_int) de_int) (de_var 1))))))
abbrev s__law_names : Stmt := topS 14
theorem sc__law_names : FnScope ["_law_pot_here", "_law_many", "_law_letters", "_law_found", "_law_k", "_law_size", "_law_name", "_law_some", "_law_turn", "_law_one"] ["_law_pot_here", "_law_many"] (defScope s__law_names) := ⟨rfl, rfl, rfl, by decide +kernel, rfl, by decide +kernel, by decide +kernel⟩
theorem ok__law_names {f : Addr} {fd : FuncData} (F : Fun K "_law_names" "_law_names" s__law_names f fd) (nb : NB mg) (T__law_digit : Has P w K mg base "_law_digit" ["_law_pot_here", "_law_many"] 1 w__law_digit) : FnOk P w K mg base (L2N.CX P w) 2 f fd ["_law_pot_here", "_law_many"] (liftF K mg w__law_names) :=
  ok_def (k := 1) F sc__law_names fun cdv A outer s H E g =>
  (dss_cons (ds_set g rfl (by first | exact Or.inl rfl | exact Or.inr rfl) de_str)
  (dss_cons (ds_set g rfl (by first | exact Or.inl rfl | exact Or.inr rfl) (de_lstC da_nil))
  (dss_cons (ds_for g (.nm 4) (di_rng1 nb.range (da_cons (de_var 1) da_nil)) (pg_name (i := 4) g.nd rfl (by first | exact Or.inl rfl | exact Or.inr rfl))
   (dss_cons (ds_set g rfl (by first | exact Or.inl rfl | exact Or.inr rfl) (de_op op_add4 s_add de_int (de_call0 g T__law_digit (by decide) (da_cons (de_var 0) (da_cons (de_ix2 g (de_lst (da_cons de_int (da_cons de_int (da_cons de_int da_nil)))) (de_call0 g T__law_digit (by decide) (da_cons (de_var 0) (da_cons de_int da_nil)))) da_nil)))))
   (dss_cons (ds_set g rfl (by first | exact Or.inl rfl | exact Or.inr rfl) (de_join de_str (de_lc g (own := [("_law_turn", 8)]) (.nm 8) (by decide) (di_rng1 nb.range (da_cons (de_var 5) da_nil)) (blk_ok (by kernel_rfl)) (fun s H C cl fp => (pg_name (i := 8) g.nd rfl (by first | exact Or.inl rfl | exact Or.inr rfl))) (fun s H C cl fp g => dts_nil) (fun s H C cl fp g => (de_ix2 g (de_var 2) (de_call0 g T__law_digit (by decide) (da_cons (de_var 0) (da_cons de_int da_nil))))))))
   (dss_cons (ds_if (dt_cmp (op_in5 g) s_in2 (de_var 6) (de_var 3))
    (dss_cons (by first | exact ds_setLc g rfl rfl (sw_true rfl rfl rfl (by decide +kernel)) (own := [("_law_turn", 8)]) (.nm 8) (by decide) (di_rng1 nb.range (da_cons (de_op op_add4 s_add (de_var 1) de_int) da_nil)) (blk_ok (by kernel_rfl)) (fun s H C cl fp => (pg_name (i := 8) g.nd rfl (by first | exact Or.inl rfl | exact Or.inr rfl))) (fun s H C cl fp g => dts_nil) (fun s H C cl fp g => (de_op op_add4 s_add (de_op op_add4 s_add (de_slice (de_var 6) do_none (do_some de_int)) (de_ix2 g (de_var 2) (de_var 8))) de_str)) | exact ds_set g rfl (by first | exact Or.inl rfl | exact Or.inr rfl) (de_lc g (own := [("_law_turn", 8)]) (.nm 8) (by decide) (di_rng1 nb.range (da_cons (de_op op_add4 s_add (de_var 1) de_int) da_nil)) (blk_ok (by kernel_rfl)) (fun s H C cl fp => (pg_name (i := 8) g.nd rfl (by first | exact Or.inl rfl | exact Or.inr rfl))) (fun s H C cl fp g => dts_nil) (fun s H C cl fp g => (de_op op_add4 s_add (de_op op_add4 s_add (de_slice (de_var 6) do_none (do_some de_int)) (de_ix2 g (de_var 2) (de_var 8))) de_str))))
    (dss_one (ds_set g rfl (by first | exact Or.inl rfl | exact Or.inr rfl) (de_ix2 g (de_lc g (own := [("_law_one", 9)]) (.nm 9) (by decide) (di_seq (de_var 7)) (blk_ok (by kernel_rfl)) (fun s H C cl fp => (pg_name (i := 9) g.nd rfl (by first | exact Or.inl rfl | exact Or.inr rfl))) (fun s H C cl fp g => (dts_one (dt_cmp (op_notin5 g) s_in2 (de_var 9) (de_var 3)))) (fun s H C cl fp g => (de_var 9))) de_int))))
    dss_nil)
   (dss_one (ds_expr (de_bm PySem.F.plainAttrs_list PySem.F.slot_list_append PySem.F.type_list_append mt_append s_append tw_list (de_var 3) (da_cons (de_var 6) da_nil))))))))
  (dss_one (ds_ret (de_var 3))))))
abbrev s__law_number : Stmt := topS 15
theorem sc__law_number : FnScope ["_law_pot_here", "_law_near", "_law_far"] ["_law_pot_here"] (defScope s__law_number) := ⟨rfl, rfl, rfl, by decide +kernel, rfl, by decide +kernel, by decide +kernel⟩
theorem ok__law_number {f : Addr} {fd : FuncData} (F : Fun K "_law_number" "_law_number" s__law_number f fd) (nb : NB mg) (T__law_digit : Has P w K mg base "_law_digit" ["_law_pot_here", "_law_many"] 1 w__law_digit) : FnOk P w K mg base (L2N.CX P w) 2 f fd ["_law_pot_here"] (liftF K mg w__law_number) :=
  ok_def (k := 1) F sc__law_number fun cdv A outer s H E g =>
  (dss_cons (ds_set g rfl (by first | exact Or.inl rfl | exact Or.inr rfl) (de_op op_sub s_sub (de_call0 g T__law_digit (by decide) (da_cons (de_var 0) (da_cons de_int da_nil))) de_int))
  (dss_cons (ds_set g rfl (by first | exact Or.inl rfl | exact Or.inr rfl) (de_op op_add4 s_add (de_op op_sub s_sub (de_call0 g T__law_digit (by decide) (da_cons (de_var 0) (da_cons (de_op op_sub s_sub (de_op op_mul s_mul de_int (de_op op_pow s_pow de_int de_int)) de_int) da_nil))) (de_op op_pow s_pow de_int de_int)) de_int))
  (dss_one (ds_ret (de_ix2 g (de_lst (da_cons (de_var 1) (da_cons (de_var 1) (da_cons de_int (da_cons (de_var 2) da_nil))))) (de_call0 g T__law_digit (by decide) (da_cons (de_var 0) (da_cons de_int da_nil))))))))
abbrev s__law_step : Stmt := topS 16
theorem sc__law_step : FnScope ["_law_pot_here", "_law_names_here", "_law_at", "_law_way", "_law_later"] ["_law_pot_here", "_law_names_here", "_law_at"] (defScope s__law_step) := ⟨rfl, rfl, rfl, by decide +kernel, rfl, by decide +kernel, by decide +kernel⟩
theorem ok__law_step {f : Addr} {fd : FuncData} (F : Fun K "_law_step" "_law_step" s__law_step f fd) (nb : NB mg) (T__law_digit : Has P w K mg base "_law_digit" ["_law_pot_here", "_law_many"] 1 w__law_digit) (T__law_number : Has P w K mg base "_law_number" ["_law_pot_here"] 2 w__law_number) : FnOk P w K mg base (L2N.CX P w) 3 f fd ["_law_pot_here", "_law_names_here", "_law_at"] (liftF K mg w__law_step) :=
  ok_def (k := 2) F sc__law_step fun cdv A outer s H E g =>
  (dss_cons (ds_set g rfl (by first | exact Or.inl rfl | exact Or.inr rfl) (de_call0 g T__law_digit (by decide) (da_cons (de_var 0) (da_cons de_int da_nil))))
  (dss_cons (ds_if (dt_cmp (op_eqG g) s_eq (de_var 3) de_int)
   (dss_one (ds_ret (de_tup (da_cons de_str (da_cons (de_call0 g T__law_number (by decide) (da_cons (de_var 0) da_nil)) da_nil)))))
   dss_nil)
  (dss_cons (ds_if (dt_cmp (op_eqG g) s_eq (de_var 3) de_int)
   (dss_one (ds_ret (de_tup (da_cons de_str (da_cons (de_op op_sub s_sub (de_call0 g T__law_digit (by decide) (da_cons (de_var 0) (da_cons de_int da_nil))) de_int) da_nil)))))
   dss_nil)
  (dss_cons (ds_if (dt_cmp (op_lt2 g) s_lt2 (de_var 3) de_int)
   (dss_one (ds_ret (de_tup (da_cons de_str da_nil))))
   dss_nil)
  (dss_cons (ds_set g rfl (by first | exact Or.inl rfl | exact Or.inr rfl) (de_slice (de_var 1) (do_some (de_op op_add4 s_add (de_var 2) de_int)) do_none))
  (dss_cons (ds_if (DW.t (dw_or (dt_cmp (op_eqG g) s_eq (de_var 4) (de_lst da_nil)) (dw_or1 (dt_cmp (op_eqG g) s_eq (de_call0 g T__law_digit (by decide) (da_cons (de_var 0) (da_cons de_int da_nil))) de_int))))
   (dss_one (ds_set g rfl (by first | exact Or.inl rfl | exact Or.inr rfl) (de_var 1)))
   dss_nil)
  (dss_one (ds_ret (de_tup (da_cons de_str (da_cons (de_ix2 g (de_var 4) (de_call0 g T__law_digit (by decide) (da_cons (de_var 0) (da_cons (de_callB call_len3 s_len nb.len (by decide +kernel) (da_cons (de_var 4) da_nil)) da_nil)))) da_nil)))))))))))
abbrev s__law_entry : Stmt := topS 17
theorem sc__law_entry : FnScope ["_law_pot_here", "_law_names_here", "_law_at", "_law_way", "_law_steps", "_law_turn"] ["_law_pot_here", "_law_names_here", "_law_at"] (defScope s__law_entry) := ⟨rfl, rfl, rfl, by decide +kernel, rfl, by decide +kernel, by decide +kernel⟩
theorem ok__law_entry {f : Addr} {fd : FuncData} (F : Fun K "_law_entry" "_law_entry" s__law_entry f fd) (nb : NB mg) (T__law_digit : Has P w K mg base "_law_digit" ["_law_pot_here", "_law_many"] 1 w__law_digit) (T__law_number : Has P w K mg base "_law_number" ["_law_pot_here"] 2 w__law_number) (T__law_step : Has P w K mg base "_law_step" ["_law_pot_here", "_law_names_here", "_law_at"] 3 w__law_step) : FnOk P w K mg base (L2N.CX P w) 4 f fd ["_law_pot_here", "_law_names_here", "_law_at"] (liftF K mg w__law_entry) :=
  ok_def (k := 3) F sc__law_entry fun cdv A outer s H E g =>
  (dss_cons (ds_set g rfl (by first | exact Or.inl rfl | exact Or.inr rfl) (de_call0 g T__law_digit (by decide) (da_cons (de_var 0) (da_cons de_int da_nil))))
  (dss_cons (ds_if (dt_cmp (op_eqG g) s_eq (de_var 3) de_int)
   (dss_one (ds_ret (de_tup (da_cons de_str (da_cons (de_call0 g T__law_number (by decide) (da_cons (de_var 0) da_nil)) da_nil)))))
   dss_nil)
  (dss_cons (ds_if (dt_cmp (op_eqG g) s_eq (de_var 3) de_int)
   (dss_one (ds_ret (de_tup (da_cons de_str (da_cons (de_ix2 g (de_var 1) (de_op op_mod s_mod (de_op op_add4 s_add (de_op op_add4 s_add (de_var 2) de_int) (de_call0 g T__law_digit (by decide) (da_cons (de_var 0) (da_cons (de_callB call_len3 s_len nb.len (by decide +kernel) (da_cons (de_var 1) da_nil)) da_nil)))) (de_callB call_len3 s_len nb.len (by decide +kernel) (da_cons (de_var 1) da_nil)))) (da_cons (de_call0 g T__law_number (by decide) (da_cons (de_var 0) da_nil)) da_nil))))))
   dss_nil)
  (dss_cons (ds_set g rfl (by first | exact Or.inl rfl | exact Or.inr rfl) (de_callTy call_tupOf s_tupOf nb.tuple (by decide +kernel) (da_cons (de_lc g (own := [("_law_turn", 5)]) (.nm 5) (by decide) (di_rng1 nb.range (da_cons (de_call0 g T__law_digit (by decide) (da_cons (de_var 0) (da_cons de_int da_nil))) da_nil)) (blk_ok (by kernel_rfl)) (fun s H C cl fp => (pg_name (i := 5) g.nd rfl (by first | exact Or.inl rfl | exact Or.inr rfl))) (fun s H C cl fp g => dts_nil) (fun s H C cl fp g => (de_call0 g T__law_step (by decide) (da_cons (de_var 0) (da_cons (de_var 1) (da_cons (de_var 2) da_nil)))))) da_nil)))
  (dss_one (ds_ret (de_tup (da_cons (de_ix2 g (de_lst (da_cons de_str (da_cons de_str (da_cons de_str da_nil)))) (de_op op_sub s_sub (de_var 3) de_int)) (da_cons (de_var 4) da_nil)))))))))
abbrev s__law_paths : Stmt := topS 18
theorem sc__law_paths : FnScope ["_law_thing", "_law_found", "_law_k", "_law_path"] ["_law_thing"] (defScope s__law_paths) := ⟨rfl, rfl, rfl, by decide +kernel, rfl, by decide +kernel, by decide +kernel⟩
theorem ok__law_paths {f : Addr} {fd : FuncData} {rec : DFn} {j : Nat} (hj : 3 ≤ j) (F : Fun K "_law_paths" "_law_paths" s__law_paths f fd) (nb : NB mg) (T__law_paths : Has P w K mg base "_law_paths" ["_law_thing"] j rec) : FnOk P w K mg base (L2N.CX P w) (j + 1) f fd ["_law_thing"] (liftF K mg (w__law_pathsF rec)) :=
  ok_def (k := j) F sc__law_paths fun cdv A outer s H E g =>
  (dss_cons (ds_set g rfl (by first | exact Or.inl rfl | exact Or.inr rfl) (de_lstC (da_cons (de_tup da_nil) da_nil)))
  (dss_cons (ds_if (dt_val (de_isi2 (T := "tuple") (U := "list") (by simp) (by simp) (by decide +kernel) (by decide +kernel) nb.isinstance nb.tuple nb.list (de_var 0) (by decide +kernel)))
   (dss_one (ds_for g (.nm 2) (di_rng1 nb.range (da_cons (de_callB call_len3 s_len nb.len (by decide +kernel) (da_cons (de_var 0) da_nil)) da_nil)) (pg_name (i := 2) g.nd rfl (by first | exact Or.inl rfl | exact Or.inr rfl))
    (dss_one (ds_expr (de_bm PySem.F.plainAttrs_list PySem.F.slot_list_extend PySem.F.type_list_extend mt_extend s_extend tw_list (de_var 1) (da_cons (de_lc g (own := [("_law_path", 3)]) (.nm 3) (by first | decide | omega) (di_seq (de_callH g T__law_paths (by first | decide | omega) (da_cons (de_ix2 g (de_var 0) (de_var 2)) da_nil))) (blk_ok (by kernel_rfl)) (fun s H C cl fp => (pg_name (i := 3) g.nd rfl (by first | exact Or.inl rfl | exact Or.inr rfl))) (fun s H C cl fp g => dts_nil) (fun s H C cl fp g => (de_op op_add4 s_add (de_tup (da_cons (de_var 2) da_nil)) (de_var 3)))) da_nil))))))
   dss_nil)
  (dss_one (ds_ret (de_var 1)))))
abbrev s__law_part : Stmt := topS 19
theorem sc__law_part : FnScope ["_law_thing", "_law_path", "_law_k"] ["_law_thing", "_law_path"] (defScope s__law_part) := ⟨rfl, rfl, rfl, by decide +kernel, rfl, by decide +kernel, by decide +kernel⟩
theorem ok__law_part {f : Addr} {fd : FuncData} (F : Fun K "_law_part" "_law_part" s__law_part f fd) (nb : NB mg) : FnOk P w K mg base (L2N.CX P w) 1 f fd ["_law_thing", "_law_path"] (liftF K mg w__law_part) :=
  ok_def (k := 0) F sc__law_part fun cdv A outer s H E g =>
  (dss_cons (ds_for g (.nm 2) (di_seq (de_var 1)) (pg_name (i := 2) g.nd rfl (by first | exact Or.inl rfl | exact Or.inr rfl))
   (dss_one (ds_set g rfl (by first | exact Or.inl rfl | exact Or.inr rfl) (de_ix2 g (de_var 0) (de_var 2)))))
  (dss_one (ds_ret (de_var 0))))
abbrev s__law_with : Stmt := topS 20
theorem sc__law_with : FnScope ["_law_thing", "_law_path", "_law_part_here", "_law_turned_here"] ["_law_thing", "_law_path", "_law_part_here"] (defScope s__law_with) := ⟨rfl, rfl, rfl, by decide +kernel, rfl, by decide +kernel, by decide +kernel⟩
theorem ok__law_with {f : Addr} {fd : FuncData} {rec : DFn} {j : Nat} (hj : 3 ≤ j) (F : Fun K "_law_with" "_law_with" s__law_with f fd) (nb : NB mg) (T__law_with : Has P w K mg base "_law_with" ["_law_thing", "_law_path", "_law_part_here"] j rec) : FnOk P w K mg base (L2N.CX P w) (j + 1) f fd ["_law_thing", "_law_path", "_law_part_here"] (liftF K mg (w__law_withF rec)) :=
  ok_def (k := j) F sc__law_with fun cdv A outer s H E g =>
  (dss_cons (ds_if (dt_cmp (op_eqG g) s_eq (de_var 1) (de_tup da_nil))
   (dss_one (ds_ret (de_var 2)))
   dss_nil)
  (dss_cons (ds_set g rfl (by first | exact Or.inl rfl | exact Or.inr rfl) (de_callTy (call_list2 g.calm) s_listC2 nb.list (by decide +kernel) (da_cons (de_var 0) da_nil)))
  (dss_cons (ds_setI g (de_var 3) (de_ix2 g (de_var 1) de_int) (de_callH g T__law_with (by first | decide | omega) (da_cons (de_ix2 g (de_var 0) (de_ix2 g (de_var 1) de_int)) (da_cons (de_slice (de_var 1) (do_some de_int) do_none) (da_cons (de_var 2) da_nil)))))
  (dss_cons (ds_if (dt_val (de_isi (T := "tuple") (by simp) (by decide +kernel) nb.isinstance nb.tuple (de_var 0) (by decide +kernel)))
   (dss_one (ds_ret (de_callTy call_tupOf s_tupOf nb.tuple (by decide +kernel) (da_cons (de_var 3) da_nil))))
   dss_nil)
  (dss_one (ds_ret (de_var 3)))))))
abbrev s__law_odd : Stmt := topS 21
theorem sc__law_odd : FnScope ["_law_pot_here", "_law_way"] ["_law_pot_here"] (defScope s__law_odd) := ⟨rfl, rfl, rfl, by decide +kernel, rfl, by decide +kernel, by decide +kernel⟩
theorem ok__law_odd {f : Addr} {fd : FuncData} (F : Fun K "_law_odd" "_law_odd" s__law_odd f fd) (nb : NB mg) (T__law_digit : Has P w K mg base "_law_digit" ["_law_pot_here", "_law_many"] 1 w__law_digit) : FnOk P w K mg base (L2N.CX P w) 2 f fd ["_law_pot_here"] (liftF K mg w__law_odd) :=
  ok_def (k := 1) F sc__law_odd fun cdv A outer s H E g =>
  (dss_cons (ds_set g rfl (by first | exact Or.inl rfl | exact Or.inr rfl) (de_call0 g T__law_digit (by decide) (da_cons (de_var 0) (da_cons de_int da_nil))))
  (dss_cons (ds_if (dt_cmp (op_lt2 g) s_lt2 (de_var 1) de_int)
   (dss_one (ds_ret (de_ix2 g (de_lst (da_cons de_int (da_cons de_int (da_cons (de_neg de_int) (da_cons de_int (da_cons de_int (da_cons (de_neg de_int) da_nil))))))) (de_var 1))))
   dss_nil)
  (dss_cons (ds_if (dt_cmp (op_lt2 g) s_lt2 (de_var 1) de_int)
   (dss_one (ds_ret (de_ix2 g (de_lst (da_cons de_str (da_cons de_str (da_cons de_str (da_cons de_str (da_cons de_str (da_cons de_str (da_cons de_str (da_cons de_str da_nil))))))))) (de_op op_sub s_sub (de_var 1) de_int))))
   dss_nil)
  (dss_cons (ds_if (dt_cmp (op_lt2 g) s_lt2 (de_var 1) de_int)
   (dss_one (ds_ret (de_ix2 g (de_lst (da_cons (de_tup (da_cons de_str da_nil)) (da_cons (de_tup (da_cons de_str (da_cons de_int da_nil))) (da_cons (de_tup (da_cons de_str (da_cons de_int da_nil))) (da_cons (de_tup (da_cons de_str (da_cons de_str da_nil))) da_nil))))) (de_op op_sub s_sub (de_var 1) de_int))))
   dss_nil)
  (dss_cons (ds_if (dt_cmp (op_lt2 g) s_lt2 (de_var 1) de_int)
   (dss_one (ds_ret (de_ix2 g (de_lst (da_cons de_non (da_cons de_bl (da_cons de_bl da_nil)))) (de_op op_sub s_sub (de_var 1) de_int))))
   dss_nil)
  (dss_one (ds_ret (de_ix2 g (de_lst (da_cons (de_lst da_nil) (da_cons (de_tup da_nil) (da_cons de_dicE da_nil)))) (de_op op_sub s_sub (de_var 1) de_int)))))))))
abbrev s__law_turned : Stmt := topS 22
theorem sc__law_turned : FnScope ["_law_pot_here", "_law_part_here", "_law_way", "_law_some", "_law_sign", "_law_at"] ["_law_pot_here", "_law_part_here", "_law_way"] (defScope s__law_turned) := ⟨rfl, rfl, rfl, by decide +kernel, rfl, by decide +kernel, by decide +kernel⟩
theorem ok__law_turned {f : Addr} {fd : FuncData} (F : Fun K "_law_turned" "_law_turned" s__law_turned f fd) (nb : NB mg) (T__law_digit : Has P w K mg base "_law_digit" ["_law_pot_here", "_law_many"] 1 w__law_digit) (T__law_odd : Has P w K mg base "_law_odd" ["_law_pot_here"] 2 w__law_odd) : FnOk P w K mg base (L2N.CX P w) 3 f fd ["_law_pot_here", "_law_part_here", "_law_way"] (liftF K mg w__law_turned) :=
  ok_def (k := 2) F sc__law_turned fun cdv A outer s H E g =>
  (dss_cons (ds_if (dt_val (de_isi2 (T := "tuple") (U := "list") (by simp) (by simp) (by decide +kernel) (by decide +kernel) nb.isinstance nb.tuple nb.list (de_var 1) (by decide +kernel)))
   (dss_cons (ds_set g rfl (by first | exact Or.inl rfl | exact Or.inr rfl) (de_callTy (call_list2 g.calm) s_listC2 nb.list (by decide +kernel) (da_cons (de_var 1) da_nil)))
   (dss_cons (ds_if (dt_cmp (op_eqG g) s_eq (de_var 2) de_int)
    (dss_one (ds_expr (de_bm PySem.F.plainAttrs_list PySem.F.slot_list_insert PySem.F.type_list_insert mt_insert s_insert tw_list (de_var 3) (da_cons (de_call0 g T__law_digit (by decide) (da_cons (de_var 0) (da_cons (de_op op_add4 s_add (de_callB call_len3 s_len nb.len (by decide +kernel) (da_cons (de_var 3) da_nil)) de_int) da_nil))) (da_cons (de_call0 g T__law_odd (by decide) (da_cons (de_var 0) da_nil)) da_nil)))))
    (dss_one (ds_if (DW.t (dw_and (dt_cmp (op_eqG g) s_eq (de_var 2) de_int) (dw_and1 (dt_cmp (op_ne_nil (hu100 g.rm)) s_neNil (de_var 3) (de_lst da_nil)))))
     (dss_one (ds_expr (de_bm PySem.F.plainAttrs_list PySem.F.slot_list_pop PySem.F.type_list_pop mt_popAt s_popAt tw_list (de_var 3) (da_cons (de_call0 g T__law_digit (by decide) (da_cons (de_var 0) (da_cons (de_callB call_len3 s_len nb.len (by decide +kernel) (da_cons (de_var 3) da_nil)) da_nil))) da_nil))))
     (dss_one (ds_if (dt_val (de_isi (T := "tuple") (by simp) (by decide +kernel) nb.isinstance nb.tuple (de_var 1) (by decide +kernel)))
      (dss_one (ds_ret (de_var 3)))
      dss_nil)))))
   (dss_one (ds_ret (de_callTy call_tupOf s_tupOf nb.tuple (by decide +kernel) (da_cons (de_var 3) da_nil))))))
   dss_nil)
  (dss_cons (ds_if (dt_val (de_isi (T := "str") (by simp) (by decide +kernel) nb.isinstance nb.str (de_var 1) (by decide +kernel)))
   (dss_cons (ds_set g rfl (by first | exact Or.inl rfl | exact Or.inr rfl) (de_ix2 g de_str (de_call0 g T__law_digit (by decide) (da_cons (de_var 0) (da_cons de_int da_nil)))))
   (dss_cons (ds_set g rfl (by first | exact Or.inl rfl | exact Or.inr rfl) (de_call0 g T__law_digit (by decide) (da_cons (de_var 0) (da_cons (de_op op_add4 s_add (de_callB call_len3 s_len nb.len (by decide +kernel) (da_cons (de_var 1) da_nil)) de_int) da_nil))))
   (dss_one (ds_ret (de_op op_add4 s_add (de_op op_add4 s_add (de_slice (de_var 1) do_none (do_some (de_var 5))) (de_ix2 g (de_lst (da_cons de_str (da_cons (de_var 4) (da_cons de_str (da_cons (de_var 4) da_nil))))) (de_var 2))) (de_slice (de_var 1) (do_some (de_op op_add4 s_add (de_var 5) (de_ix2 g (de_lst (da_cons de_int (da_cons de_int (da_cons de_int (da_cons de_int da_nil))))) (de_var 2)))) do_none))))))
   dss_nil)
  (dss_cons (ds_if (DW.t (dw_and (dt_val (de_isi (T := "int") (by simp) (by decide +kernel) nb.isinstance nb.int (de_var 1) (by decide +kernel))) (dw_and1 (dt_not (dt_val (de_isi (T := "bool") (by simp) (by decide +kernel) nb.isinstance nb.bool (de_var 1) (by decide +kernel)))))))
   (dss_one (ds_ret (de_ix2 g (de_lst (da_cons (de_var 1) (da_cons (de_neg (de_var 1)) (da_cons (de_op op_fdivW s_div (de_var 1) de_int) (da_cons (de_cmp (op_eqG g) s_eq (de_var 1) de_int) da_nil))))) (de_var 2))))
   dss_nil)
  (dss_one (ds_ret (de_call0 g T__law_odd (by decide) (da_cons (de_var 0) da_nil)))))))
abbrev s__law_spoilt : Stmt := topS 23
theorem sc__law_spoilt : FnScope ["_law_pot_here", "_law_thing", "_law_way", "_law_paths_here", "_law_path"] ["_law_pot_here", "_law_thing"] (defScope s__law_spoilt) := ⟨rfl, rfl, rfl, by decide +kernel, rfl, by decide +kernel, by decide +kernel⟩
theorem ok__law_spoilt {f : Addr} {fd : FuncData} (F : Fun K "_law_spoilt" "_law_spoilt" s__law_spoilt f fd) (nb : NB mg) (T__law_digit : Has P w K mg base "_law_digit" ["_law_pot_here", "_law_many"] 1 w__law_digit) (T__law_odd : Has P w K mg base "_law_odd" ["_law_pot_here"] 2 w__law_odd) (T__law_part : Has P w K mg base "_law_part" ["_law_thing", "_law_path"] 1 w__law_part) (T__law_paths : Has P w K mg base "_law_paths" ["_law_thing"] (3 + 1 * 40) (w__law_paths 40)) (T__law_turned : Has P w K mg base "_law_turned" ["_law_pot_here", "_law_part_here", "_law_way"] 3 w__law_turned) (T__law_with : Has P w K mg base "_law_with" ["_law_thing", "_law_path", "_law_part_here"] (3 + 1 * 40) (w__law_with 40)) : FnOk P w K mg base (L2N.CX P w) 44 f fd ["_law_pot_here", "_law_thing"] (liftF K mg w__law_spoilt) :=
  ok_def (k := 43) F sc__law_spoilt fun cdv A outer s H E g =>
  (dss_cons (ds_set g rfl (by first | exact Or.inl rfl | exact Or.inr rfl) (de_call0 g T__law_digit (by decide) (da_cons (de_var 0) (da_cons de_int da_nil))))
  (dss_cons (ds_set g rfl (by first | exact Or.inl rfl | exact Or.inr rfl) (de_callH g T__law_paths (by decide) (da_cons (de_var 1) da_nil)))
  (dss_cons (ds_set g rfl (by first | exact Or.inl rfl | exact Or.inr rfl) (de_ix2 g (de_var 3) (de_call0 g T__law_digit (by decide) (da_cons (de_var 0) (da_cons (de_callB call_len3 s_len nb.len (by decide +kernel) (da_cons (de_var 3) da_nil)) da_nil)))))
  (dss_cons (ds_if (dt_cmp (op_eqG g) s_eq (de_var 2) de_int)
   (dss_one (ds_ret (de_callH g T__law_with (by decide) (da_cons (de_var 1) (da_cons (de_var 4) (da_cons (de_call0 g T__law_odd (by decide) (da_cons (de_var 0) da_nil)) da_nil))))))
   dss_nil)
  (dss_one (ds_ret (de_callH g T__law_with (by decide) (da_cons (de_var 1) (da_cons (de_var 4) (da_cons (de_call0 g T__law_turned (by decide) (da_cons (de_var 0) (da_cons (de_call0 g T__law_part (by decide) (da_cons (de_var 1) (da_cons (de_var 4) da_nil))) (da_cons (de_var 2) da_nil)))) da_nil))))))))))
abbrev s__law_is_name : Stmt := topS 24
theorem sc__law_is_name : FnScope ["_law_thing", "_law_sign"] ["_law_thing"] (defScope s__law_is_name) := ⟨rfl, rfl, rfl, by decide +kernel, rfl, by decide +kernel, by decide +kernel⟩
theorem ok__law_is_name {f : Addr} {fd : FuncData} (F : Fun K "_law_is_name" "_law_is_name" s__law_is_name f fd) (nb : NB mg) : FnOk P w K mg base (L2N.CX P w) 1 f fd ["_law_thing"] (liftF K mg w__law_is_nameB) :=
  ok_def (k := 0) F sc__law_is_name fun cdv A outer s H E g =>
  (dss_cons (ds_if (DW.t (dw_or (dt_not (dt_val (de_isi (T := "str") (by simp) (by decide +kernel) nb.isinstance nb.str (de_var 0) (by decide +kernel)))) (dw_or1 (dt_not (dt_chain op_le s_le op_le s_le de_int (de_callB call_len3 s_len nb.len (by decide +kernel) (da_cons (de_var 0) da_nil)) de_int)))))
   (dss_one (ds_ret de_bl))
   dss_nil)
  (dss_one (ds_ret (de_callB (cr_all g.calm) s_all nb.all (by decide +kernel) (da_cons (de_lc g (own := [("_law_sign", 1)]) (.nm 1) (by decide) (di_str (de_var 0)) (blk_ok (by kernel_rfl)) (fun s H C cl fp => (pg_name (i := 1) g.nd rfl (by first | exact Or.inl rfl | exact Or.inr rfl))) (fun s H C cl fp g => dts_nil) (fun s H C cl fp g => (de_cmp (op_in5 g) s_in2 (de_var 1) de_str))) da_nil)))))
abbrev s__law_is_whole : Stmt := topS 25
theorem sc__law_is_whole : FnScope ["_law_thing"] ["_law_thing"] (defScope s__law_is_whole) := ⟨rfl, rfl, rfl, by decide +kernel, rfl, by decide +kernel, by decide +kernel⟩
theorem ok__law_is_whole {f : Addr} {fd : FuncData} (F : Fun K "_law_is_whole" "_law_is_whole" s__law_is_whole f fd) (nb : NB mg) : FnOk P w K mg base (L2N.CX P w) 1 f fd ["_law_thing"] (liftF K mg w__law_is_whole) :=
  ok_def (k := 0) F sc__law_is_whole fun cdv A outer s H E g =>
  (dss_one (ds_ret (de_and (de_isi (T := "int") (by simp) (by decide +kernel) nb.isinstance nb.int (de_var 0) (by decide +kernel)) (de_one (de_not (de_isi (T := "bool") (by simp) (by decide +kernel) nb.isinstance nb.bool (de_var 0) (by decide +kernel)))))))
abbrev s__law_is_step : Stmt := topS 26
theorem sc__law_is_step : FnScope ["_law_thing"] ["_law_thing"] (defScope s__law_is_step) := ⟨rfl, rfl, rfl, by decide +kernel, rfl, by decide +kernel, by decide +kernel⟩
theorem ok__law_is_step {f : Addr} {fd : FuncData} (F : Fun K "_law_is_step" "_law_is_step" s__law_is_step f fd) (nb : NB mg) (T__law_is_name : Has P w K mg base "_law_is_name" ["_law_thing"] 1 w__law_is_nameB) (T__law_is_whole : Has P w K mg base "_law_is_whole" ["_law_thing"] 1 w__law_is_whole) : FnOk P w K mg base (L2N.CX P w) 2 f fd ["_law_thing"] (liftF K mg w__law_is_step) :=
  ok_def (k := 1) F sc__law_is_step fun cdv A outer s H E g =>
  (dss_cons (ds_if (DW.t (dw_or (dt_not (dt_val (de_isi (T := "tuple") (by simp) (by decide +kernel) nb.isinstance nb.tuple (de_var 0) (by decide +kernel)))) (dw_or1 (dt_cmp (op_eqZ g) s_eqZ (de_var 0) (de_tup da_nil)))))
   (dss_one (ds_ret de_bl))
   dss_nil)
  (dss_cons (ds_if (dt_cmp (op_eqZ g) s_eqZ (de_ix2 g (de_var 0) de_int) de_str)
   (dss_one (ds_ret (de_cmp (op_eqG g) s_eq (de_callB call_len3 s_len nb.len (by decide +kernel) (da_cons (de_var 0) da_nil)) de_int)))
   dss_nil)
  (dss_cons (ds_if (dt_cmp (op_neG g) s_ne (de_callB call_len3 s_len nb.len (by decide +kernel) (da_cons (de_var 0) da_nil)) de_int)
   (dss_one (ds_ret de_bl))
   dss_nil)
  (dss_cons (ds_if (dt_cmp (op_eqZ g) s_eqZ (de_ix2 g (de_var 0) de_int) de_str)
   (dss_one (ds_ret (de_call0 g T__law_is_name (by decide) (da_cons (de_ix2 g (de_var 0) de_int) da_nil))))
   dss_nil)
  (dss_cons (ds_if (dt_cmp (op_eqZ g) s_eqZ (de_ix2 g (de_var 0) de_int) de_str)
   (dss_one (ds_ret (de_and (de_call0 g T__law_is_whole (by decide) (da_cons (de_ix2 g (de_var 0) de_int) da_nil)) (de_one (de_chain op_le s_le op_le s_le (de_neg de_int) (de_ix2 g (de_var 0) de_int) de_int)))))
   dss_nil)
  (dss_one (ds_ret (de_and (de_cmp (op_eqZ g) s_eqZ (de_ix2 g (de_var 0) de_int) de_str) (de_one (de_call0 g T__law_is_whole (by decide) (da_cons (de_ix2 g (de_var 0) de_int) da_nil)))))))))))
abbrev s__law_is_entry : Stmt := topS 27
theorem sc__law_is_entry : FnScope ["_law_thing", "_law_step_here"] ["_law_thing"] (defScope s__law_is_entry) := ⟨rfl, rfl, rfl, by decide +kernel, rfl, by decide +kernel, by decide +kernel⟩
theorem ok__law_is_entry {f : Addr} {fd : FuncData} (F : Fun K "_law_is_entry" "_law_is_entry" s__law_is_entry f fd) (nb : NB mg) (T__law_is_name : Has P w K mg base "_law_is_name" ["_law_thing"] 1 w__law_is_nameB) (T__law_is_step : Has P w K mg base "_law_is_step" ["_law_thing"] 2 w__law_is_step) (T__law_is_whole : Has P w K mg base "_law_is_whole" ["_law_thing"] 1 w__law_is_whole) : FnOk P w K mg base (L2N.CX P w) 3 f fd ["_law_thing"] (liftF K mg w__law_is_entry) :=
  ok_def (k := 2) F sc__law_is_entry fun cdv A outer s H E g =>
  (dss_cons (ds_if (DW.t (dw_or (dt_not (dt_val (de_isi (T := "tuple") (by simp) (by decide +kernel) nb.isinstance nb.tuple (de_var 0) (by decide +kernel)))) (dw_or1 (dt_cmp (op_notin5 g) s_in2 (de_callB call_len3 s_len nb.len (by decide +kernel) (da_cons (de_var 0) da_nil)) (de_lst (da_cons de_int (da_cons de_int da_nil)))))))
   (dss_one (ds_ret de_bl))
   dss_nil)
  (dss_cons (ds_if (dt_cmp (op_eqG g) s_eq (de_callB call_len3 s_len nb.len (by decide +kernel) (da_cons (de_var 0) da_nil)) de_int)
   (dss_one (ds_ret (de_and (de_cmp (op_eqZ g) s_eqZ (de_ix2 g (de_var 0) de_int) de_str) (de_and (de_call0 g T__law_is_name (by decide) (da_cons (de_ix2 g (de_var 0) de_int) da_nil)) (de_one (de_call0 g T__law_is_whole (by decide) (da_cons (de_ix2 g (de_var 0) de_int) da_nil)))))))
   dss_nil)
  (dss_cons (ds_if (dt_cmp (op_eqZ g) s_eqZ (de_ix2 g (de_var 0) de_int) de_str)
   (dss_one (ds_ret (de_call0 g T__law_is_whole (by decide) (da_cons (de_ix2 g (de_var 0) de_int) da_nil))))
   dss_nil)
  (dss_cons (ds_if (DW.t (dw_or (dt_cmp (op_ni_Z (hu100 g.rm)) s_inZ (de_ix2 g (de_var 0) de_int) (de_lst (da_cons de_str (da_cons de_str da_nil)))) (dw_or (dt_not (dt_val (de_isi (T := "tuple") (by simp) (by decide +kernel) nb.isinstance nb.tuple (de_ix2 g (de_var 0) de_int) (by decide +kernel)))) (dw_or1 (dt_cmp (op_gt2 g) s_gt2 (de_callB call_len3 s_len nb.len (by decide +kernel) (da_cons (de_ix2 g (de_var 0) de_int) da_nil)) de_int)))))
   (dss_one (ds_ret de_bl))
   dss_nil)
  (dss_one (ds_ret (de_callB (cr_all g.calm) s_all nb.all (by decide +kernel) (da_cons (de_lc g (own := [("_law_step_here", 1)]) (.nm 1) (by decide) (di_seq (de_ix2 g (de_var 0) de_int)) (blk_ok (by kernel_rfl)) (fun s H C cl fp => (pg_name (i := 1) g.nd rfl (by first | exact Or.inl rfl | exact Or.inr rfl))) (fun s H C cl fp g => dts_nil) (fun s H C cl fp g => (de_call0 g T__law_is_step (by decide) (da_cons (de_var 1) da_nil)))) da_nil))))))))
abbrev s_law : Stmt := topS 28
theorem sc_law : FnScope ["_law_script", "_law_k", "_law_pot_here", "_law_spoils", "_law_thing", "_law_turn", "_law_ahead", "_law_told"] ["_law_script"] (defScope s_law) := ⟨rfl, rfl, rfl, by decide +kernel, rfl, by decide +kernel, by decide +kernel⟩
theorem ok_law {f : Addr} {fd : FuncData} (F : Fun K "law" "law" s_law f fd) (nb : NB mg) (T__law_digit : Has P w K mg base "_law_digit" ["_law_pot_here", "_law_many"] 1 w__law_digit) (T__law_entry : Has P w K mg base "_law_entry" ["_law_pot_here", "_law_names_here", "_law_at"] 4 w__law_entry) (T__law_is_entry : Has P w K mg base "_law_is_entry" ["_law_thing"] 3 w__law_is_entry) (T__law_names : Has P w K mg base "_law_names" ["_law_pot_here", "_law_many"] 2 w__law_names) (T__law_pot : Has P w K mg base "_law_pot" ["_law_script", "_law_k"] 1 w__law_pot) (T__law_spoilt : Has P w K mg base "_law_spoilt" ["_law_pot_here", "_law_thing"] 44 w__law_spoilt) (T_is_entry : Has P w K mg base "is_entry" ["thing"] 4 w_is_entryZ) : FnOkG P w K mg base (LM.CX true P w) 45 f fd ["_law_script"] (liftF K mg w_law) :=
  ok_defZG (k := 44) F sc_law fun cdv A outer s H E g tz hgd =>
  (dss_cons (ds_for g (.nm 1) (di_rng1 nb.range (da_cons (de_op op_add4 s_add (de_callB (call_min2 g.calm) s_min nb.min (by decide +kernel) (da_cons (de_callB call_len3 s_len nb.len (by decide +kernel) (da_cons (de_var 0) da_nil)) (da_cons de_int da_nil))) de_int) da_nil)) (pg_name (i := 1) g.nd rfl (by first | exact Or.inl rfl | exact Or.inr rfl))
   (dss_cons (ds_set g rfl (by first | exact Or.inl rfl | exact Or.inr rfl) (de_call0 g T__law_pot (by decide) (da_cons (de_var 0) (da_cons (de_var 1) da_nil))))
   (dss_cons (ds_set g rfl (by first | exact Or.inl rfl | exact Or.inr rfl) (de_call0 g T__law_digit (by decide) (da_cons (de_var 2) (da_cons de_int da_nil))))
   (dss_cons (ds_set g rfl (by first | exact Or.inl rfl | exact Or.inr rfl) (de_call0 g T__law_entry (by decide) (da_cons (de_var 2) (da_cons (de_call0 g T__law_names (by decide) (da_cons (de_var 2) (da_cons de_int da_nil))) (da_cons de_int da_nil)))))
   (dss_cons (ds_for g (.nm 5) (di_rng1 nb.range (da_cons (de_var 3) da_nil)) (pg_name (i := 5) g.nd rfl (by first | exact Or.inl rfl | exact Or.inr rfl))
    (dss_one (ds_set g rfl (by first | exact Or.inl rfl | exact Or.inr rfl) (de_callH g T__law_spoilt (by decide) (da_cons (de_var 2) (da_cons (de_var 4) da_nil))))))
   (dss_cons (ds_set g rfl (by first | exact Or.inl rfl | exact Or.inr rfl) (de_callB (call_reprZG hgd (hu100 g.rm)) s_reprZ nb.repr (by decide +kernel) (da_cons (de_var 4) da_nil)))
   (dss_cons (ds_set g rfl (by first | exact Or.inl rfl | exact Or.inr rfl) (de_call0 g T_is_entry (by decide) (da_cons (de_var 4) da_nil)))
   (dss_one (ds_if (DW.t (dw_or (dt_not (dt_val (de_isi (T := "bool") (by simp) (by decide +kernel) nb.isinstance nb.bool (de_var 7) (by decide +kernel)))) (dw_or (dt_cmp (op_neG g) s_ne (de_var 7) (de_call0 g T__law_is_entry (by decide) (da_cons (de_var 4) da_nil))) (dw_or1 (dt_cmp (op_neG g) s_ne (de_callB (call_reprZG hgd (hu100 g.rm)) s_reprZ nb.repr (by decide +kernel) (da_cons (de_var 4) da_nil)) (de_var 6))))))
    (dss_one (ds_ret de_bl))
    dss_nil)))))))))
  (dss_one (ds_ret de_bl)))
end
def spLaw (K : Fg) : Sp := fun vs H Q _ => ∃ (a : Addr) (ns : List Int), vs = [.ref a] ∧ SqL K H a (ns.map V.int) ∧ ns.length ≤ 63 ∧ ∀ H', Q (.bl true) H'
instance : TabsC := ⟨[]⟩
theorem all_mk {l : PySem.W.OpenLaw} {w : World} {K : Fg} {h : Heap} {mg : Str → Option Value} {fa : Addr} (X : K.In h) (G : h.Ns mainGlobals mg) (hfa : mg "law" = some (.ref fa))
    {f_is_name : Addr} {od_is_name an_is_name : Option Addr} {sl_is_name : Array (Option Value)} {oc_is_name kv_is_name dc_is_name pm_is_name cd_is_name ct_is_name : Value}
    {f_is_whole : Addr} {od_is_whole an_is_whole : Option Addr} {sl_is_whole : Array (Option Value)} {oc_is_whole kv_is_whole dc_is_whole pm_is_whole cd_is_whole ct_is_whole : Value}
    {f_is_step : Addr} {od_is_step an_is_step : Option Addr} {sl_is_step : Array (Option Value)} {oc_is_step kv_is_step dc_is_step pm_is_step cd_is_step ct_is_step : Value}
    {f_are_steps : Addr} {od_are_steps an_are_steps : Option Addr} {sl_are_steps : Array (Option Value)} {oc_are_steps kv_are_steps dc_are_steps pm_are_steps cd_are_steps ct_are_steps : Value}
    {f_is_entry : Addr} {od_is_entry an_is_entry : Option Addr} {sl_is_entry : Array (Option Value)} {oc_is_entry kv_is_entry dc_is_entry pm_is_entry cd_is_entry ct_is_entry : Value}
    {f__law_pot : Addr} {od__law_pot an__law_pot : Option Addr} {sl__law_pot : Array (Option Value)} {oc__law_pot kv__law_pot dc__law_pot pm__law_pot cd__law_pot ct__law_pot : Value}
    {f__law_digit : Addr} {od__law_digit an__law_digit : Option Addr} {sl__law_digit : Array (Option Value)} {oc__law_digit kv__law_digit dc__law_digit pm__law_digit cd__law_digit ct__law_digit : Value}
    {f__law_names : Addr} {od__law_names an__law_names : Option Addr} {sl__law_names : Array (Option Value)} {oc__law_names kv__law_names dc__law_names pm__law_names cd__law_names ct__law_names : Value}
    {f__law_number : Addr} {od__law_number an__law_number : Option Addr} {sl__law_number : Array (Option Value)} {oc__law_number kv__law_number dc__law_number pm__law_number cd__law_number ct__law_number : Value}
    {f__law_step : Addr} {od__law_step an__law_step : Option Addr} {sl__law_step : Array (Option Value)} {oc__law_step kv__law_step dc__law_step pm__law_step cd__law_step ct__law_step : Value}
    {f__law_entry : Addr} {od__law_entry an__law_entry : Option Addr} {sl__law_entry : Array (Option Value)} {oc__law_entry kv__law_entry dc__law_entry pm__law_entry cd__law_entry ct__law_entry : Value}
    {f__law_paths : Addr} {od__law_paths an__law_paths : Option Addr} {sl__law_paths : Array (Option Value)} {oc__law_paths kv__law_paths dc__law_paths pm__law_paths cd__law_paths ct__law_paths : Value}
    {f__law_part : Addr} {od__law_part an__law_part : Option Addr} {sl__law_part : Array (Option Value)} {oc__law_part kv__law_part dc__law_part pm__law_part cd__law_part ct__law_part : Value}
    {f__law_with : Addr} {od__law_with an__law_with : Option Addr} {sl__law_with : Array (Option Value)} {oc__law_with kv__law_with dc__law_with pm__law_with cd__law_with ct__law_with : Value}
    {f__law_odd : Addr} {od__law_odd an__law_odd : Option Addr} {sl__law_odd : Array (Option Value)} {oc__law_odd kv__law_odd dc__law_odd pm__law_odd cd__law_odd ct__law_odd : Value}
    {f__law_turned : Addr} {od__law_turned an__law_turned : Option Addr} {sl__law_turned : Array (Option Value)} {oc__law_turned kv__law_turned dc__law_turned pm__law_turned cd__law_turned ct__law_turned : Value}
    {f__law_spoilt : Addr} {od__law_spoilt an__law_spoilt : Option Addr} {sl__law_spoilt : Array (Option Value)} {oc__law_spoilt kv__law_spoilt dc__law_spoilt pm__law_spoilt cd__law_spoilt ct__law_spoilt : Value}
    {f__law_is_name : Addr} {od__law_is_name an__law_is_name : Option Addr} {sl__law_is_name : Array (Option Value)} {oc__law_is_name kv__law_is_name dc__law_is_name pm__law_is_name cd__law_is_name ct__law_is_name : Value}
    {f__law_is_whole : Addr} {od__law_is_whole an__law_is_whole : Option Addr} {sl__law_is_whole : Array (Option Value)} {oc__law_is_whole kv__law_is_whole dc__law_is_whole pm__law_is_whole cd__law_is_whole ct__law_is_whole : Value}
    {f__law_is_step : Addr} {od__law_is_step an__law_is_step : Option Addr} {sl__law_is_step : Array (Option Value)} {oc__law_is_step kv__law_is_step dc__law_is_step pm__law_is_step cd__law_is_step ct__law_is_step : Value}
    {f__law_is_entry : Addr} {od__law_is_entry an__law_is_entry : Option Addr} {sl__law_is_entry : Array (Option Value)} {oc__law_is_entry kv__law_is_entry dc__law_is_entry pm__law_is_entry cd__law_is_entry ct__law_is_entry : Value}
    {f_law : Addr} {od_law an_law : Option Addr} {sl_law : Array (Option Value)} {oc_law kv_law dc_law pm_law cd_law ct_law : Value}
    {tk_LETTERS : Nat}
    {tk_MOST_LETTERS : Nat}
    {tk_MOST_STEPS : Nat}
    {tk_MOST_TIMES : Nat}
    (a_is_name : PySem.W.nsIn K mainGlobals "is_name" = some (some (.ref f_is_name)))
    (l_is_name : K.lookup f_is_name = some ⟨oc_is_name, od_is_name, .func (PySem.W.fnOf "is_name" "is_name" (defArgs s_is_name) (defBody s_is_name) (defScope s_is_name) .none kv_is_name dc_is_name pm_is_name an_is_name cd_is_name ct_is_name), sl_is_name⟩)
    (c_is_name : PySem.W.codeIn K cd_is_name "is_name" = true)
    (k_is_name : PySem.W.keepIn K (.ref f_is_name) = true)
    (a_is_whole : PySem.W.nsIn K mainGlobals "is_whole" = some (some (.ref f_is_whole)))
    (l_is_whole : K.lookup f_is_whole = some ⟨oc_is_whole, od_is_whole, .func (PySem.W.fnOf "is_whole" "is_whole" (defArgs s_is_whole) (defBody s_is_whole) (defScope s_is_whole) .none kv_is_whole dc_is_whole pm_is_whole an_is_whole cd_is_whole ct_is_whole), sl_is_whole⟩)
    (c_is_whole : PySem.W.codeIn K cd_is_whole "is_whole" = true)
    (k_is_whole : PySem.W.keepIn K (.ref f_is_whole) = true)
    (a_is_step : PySem.W.nsIn K mainGlobals "is_step" = some (some (.ref f_is_step)))
    (l_is_step : K.lookup f_is_step = some ⟨oc_is_step, od_is_step, .func (PySem.W.fnOf "is_step" "is_step" (defArgs s_is_step) (defBody s_is_step) (defScope s_is_step) .none kv_is_step dc_is_step pm_is_step an_is_step cd_is_step ct_is_step), sl_is_step⟩)
    (c_is_step : PySem.W.codeIn K cd_is_step "is_step" = true)
    (k_is_step : PySem.W.keepIn K (.ref f_is_step) = true)
    (a_are_steps : PySem.W.nsIn K mainGlobals "are_steps" = some (some (.ref f_are_steps)))
    (l_are_steps : K.lookup f_are_steps = some ⟨oc_are_steps, od_are_steps, .func (PySem.W.fnOf "are_steps" "are_steps" (defArgs s_are_steps) (defBody s_are_steps) (defScope s_are_steps) .none kv_are_steps dc_are_steps pm_are_steps an_are_steps cd_are_steps ct_are_steps), sl_are_steps⟩)
    (c_are_steps : PySem.W.codeIn K cd_are_steps "are_steps" = true)
    (k_are_steps : PySem.W.keepIn K (.ref f_are_steps) = true)
    (a_is_entry : PySem.W.nsIn K mainGlobals "is_entry" = some (some (.ref f_is_entry)))
    (l_is_entry : K.lookup f_is_entry = some ⟨oc_is_entry, od_is_entry, .func (PySem.W.fnOf "is_entry" "is_entry" (defArgs s_is_entry) (defBody s_is_entry) (defScope s_is_entry) .none kv_is_entry dc_is_entry pm_is_entry an_is_entry cd_is_entry ct_is_entry), sl_is_entry⟩)
    (c_is_entry : PySem.W.codeIn K cd_is_entry "is_entry" = true)
    (k_is_entry : PySem.W.keepIn K (.ref f_is_entry) = true)
    (a__law_pot : PySem.W.nsIn K mainGlobals "_law_pot" = some (some (.ref f__law_pot)))
    (l__law_pot : K.lookup f__law_pot = some ⟨oc__law_pot, od__law_pot, .func (PySem.W.fnOf "_law_pot" "_law_pot" (defArgs s__law_pot) (defBody s__law_pot) (defScope s__law_pot) .none kv__law_pot dc__law_pot pm__law_pot an__law_pot cd__law_pot ct__law_pot), sl__law_pot⟩)
    (c__law_pot : PySem.W.codeIn K cd__law_pot "_law_pot" = true)
    (k__law_pot : PySem.W.keepIn K (.ref f__law_pot) = true)
    (a__law_digit : PySem.W.nsIn K mainGlobals "_law_digit" = some (some (.ref f__law_digit)))
    (l__law_digit : K.lookup f__law_digit = some ⟨oc__law_digit, od__law_digit, .func (PySem.W.fnOf "_law_digit" "_law_digit" (defArgs s__law_digit) (defBody s__law_digit) (defScope s__law_digit) .none kv__law_digit dc__law_digit pm__law_digit an__law_digit cd__law_digit ct__law_digit), sl__law_digit⟩)
    (c__law_digit : PySem.W.codeIn K cd__law_digit "_law_digit" = true)
    (k__law_digit : PySem.W.keepIn K (.ref f__law_digit) = true)
    (a__law_names : PySem.W.nsIn K mainGlobals "_law_names" = some (some (.ref f__law_names)))
    (l__law_names : K.lookup f__law_names = some ⟨oc__law_names, od__law_names, .func (PySem.W.fnOf "_law_names" "_law_names" (defArgs s__law_names) (defBody s__law_names) (defScope s__law_names) .none kv__law_names dc__law_names pm__law_names an__law_names cd__law_names ct__law_names), sl__law_names⟩)
    (c__law_names : PySem.W.codeIn K cd__law_names "_law_names" = true)
    (k__law_names : PySem.W.keepIn K (.ref f__law_names) = true)
    (a__law_number : PySem.W.nsIn K mainGlobals "_law_number" = some (some (.ref f__law_number)))
    (l__law_number : K.lookup f__law_number = some ⟨oc__law_number, od__law_number, .func (PySem.W.fnOf "_law_number" "_law_number" (defArgs s__law_number) (defBody s__law_number) (defScope s__law_number) .none kv__law_number dc__law_number pm__law_number an__law_number cd__law_number ct__law_number), sl__law_number⟩)
    (c__law_number : PySem.W.codeIn K cd__law_number "_law_number" = true)
    (k__law_number : PySem.W.keepIn K (.ref f__law_number) = true)
    (a__law_step : PySem.W.nsIn K mainGlobals "_law_step" = some (some (.ref f__law_step)))
    (l__law_step : K.lookup f__law_step = some ⟨oc__law_step, od__law_step, .func (PySem.W.fnOf "_law_step" "_law_step" (defArgs s__law_step) (defBody s__law_step) (defScope s__law_step) .none kv__law_step dc__law_step pm__law_step an__law_step cd__law_step ct__law_step), sl__law_step⟩)
    (c__law_step : PySem.W.codeIn K cd__law_step "_law_step" = true)
    (k__law_step : PySem.W.keepIn K (.ref f__law_step) = true)
    (a__law_entry : PySem.W.nsIn K mainGlobals "_law_entry" = some (some (.ref f__law_entry)))
    (l__law_entry : K.lookup f__law_entry = some ⟨oc__law_entry, od__law_entry, .func (PySem.W.fnOf "_law_entry" "_law_entry" (defArgs s__law_entry) (defBody s__law_entry) (defScope s__law_entry) .none kv__law_entry dc__law_entry pm__law_entry an__law_entry cd__law_entry ct__law_entry), sl__law_entry⟩)
    (c__law_entry : PySem.W.codeIn K cd__law_entry "_law_entry" = true)
    (k__law_entry : PySem.W.keepIn K (.ref f__law_entry) = true)
    (a__law_paths : PySem.W.nsIn K mainGlobals "_law_paths" = some (some (.ref f__law_paths)))
    (l__law_paths : K.lookup f__law_paths = some ⟨oc__law_paths, od__law_paths, .func (PySem.W.fnOf "_law_paths" "_law_paths" (defArgs s__law_paths) (defBody s__law_paths) (defScope s__law_paths) .none kv__law_paths dc__law_paths pm__law_paths an__law_paths cd__law_paths ct__law_paths), sl__law_paths⟩)
    (c__law_paths : PySem.W.codeIn K cd__law_paths "_law_paths" = true)
    (k__law_paths : PySem.W.keepIn K (.ref f__law_paths) = true)
    (a__law_part : PySem.W.nsIn K mainGlobals "_law_part" = some (some (.ref f__law_part)))
    (l__law_part : K.lookup f__law_part = some ⟨oc__law_part, od__law_part, .func (PySem.W.fnOf "_law_part" "_law_part" (defArgs s__law_part) (defBody s__law_part) (defScope s__law_part) .none kv__law_part dc__law_part pm__law_part an__law_part cd__law_part ct__law_part), sl__law_part⟩)
    (c__law_part : PySem.W.codeIn K cd__law_part "_law_part" = true)
    (k__law_part : PySem.W.keepIn K (.ref f__law_part) = true)
    (a__law_with : PySem.W.nsIn K mainGlobals "_law_with" = some (some (.ref f__law_with)))
    (l__law_with : K.lookup f__law_with = some ⟨oc__law_with, od__law_with, .func (PySem.W.fnOf "_law_with" "_law_with" (defArgs s__law_with) (defBody s__law_with) (defScope s__law_with) .none kv__law_with dc__law_with pm__law_with an__law_with cd__law_with ct__law_with), sl__law_with⟩)
    (c__law_with : PySem.W.codeIn K cd__law_with "_law_with" = true)
    (k__law_with : PySem.W.keepIn K (.ref f__law_with) = true)
    (a__law_odd : PySem.W.nsIn K mainGlobals "_law_odd" = some (some (.ref f__law_odd)))
    (l__law_odd : K.lookup f__law_odd = some ⟨oc__law_odd, od__law_odd, .func (PySem.W.fnOf "_law_odd" "_law_odd" (defArgs s__law_odd) (defBody s__law_odd) (defScope s__law_odd) .none kv__law_odd dc__law_odd pm__law_odd an__law_odd cd__law_odd ct__law_odd), sl__law_odd⟩)
    (c__law_odd : PySem.W.codeIn K cd__law_odd "_law_odd" = true)
    (k__law_odd : PySem.W.keepIn K (.ref f__law_odd) = true)
    (a__law_turned : PySem.W.nsIn K mainGlobals "_law_turned" = some (some (.ref f__law_turned)))
    (l__law_turned : K.lookup f__law_turned = some ⟨oc__law_turned, od__law_turned, .func (PySem.W.fnOf "_law_turned" "_law_turned" (defArgs s__law_turned) (defBody s__law_turned) (defScope s__law_turned) .none kv__law_turned dc__law_turned pm__law_turned an__law_turned cd__law_turned ct__law_turned), sl__law_turned⟩)
    (c__law_turned : PySem.W.codeIn K cd__law_turned "_law_turned" = true)
    (k__law_turned : PySem.W.keepIn K (.ref f__law_turned) = true)
    (a__law_spoilt : PySem.W.nsIn K mainGlobals "_law_spoilt" = some (some (.ref f__law_spoilt)))
    (l__law_spoilt : K.lookup f__law_spoilt = some ⟨oc__law_spoilt, od__law_spoilt, .func (PySem.W.fnOf "_law_spoilt" "_law_spoilt" (defArgs s__law_spoilt) (defBody s__law_spoilt) (defScope s__law_spoilt) .none kv__law_spoilt dc__law_spoilt pm__law_spoilt an__law_spoilt cd__law_spoilt ct__law_spoilt), sl__law_spoilt⟩)
    (c__law_spoilt : PySem.W.codeIn K cd__law_spoilt "_law_spoilt" = true)
    (k__law_spoilt : PySem.W.keepIn K (.ref f__law_spoilt) = true)
    (a__law_is_name : PySem.W.nsIn K mainGlobals "_law_is_name" = some (some (.ref f__law_is_name)))
    (l__law_is_name : K.lookup f__law_is_name = some ⟨oc__law_is_name, od__law_is_name, .func (PySem.W.fnOf "_law_is_name" "_law_is_name" (defArgs s__law_is_name) (defBody s__law_is_name) (defScope s__law_is_name) .none kv__law_is_name dc__law_is_name pm__law_is_name an__law_is_name cd__law_is_name ct__law_is_name), sl__law_is_name⟩)
    (c__law_is_name : PySem.W.codeIn K cd__law_is_name "_law_is_name" = true)
    (k__law_is_name : PySem.W.keepIn K (.ref f__law_is_name) = true)
    (a__law_is_whole : PySem.W.nsIn K mainGlobals "_law_is_whole" = some (some (.ref f__law_is_whole)))
    (l__law_is_whole : K.lookup f__law_is_whole = some ⟨oc__law_is_whole, od__law_is_whole, .func (PySem.W.fnOf "_law_is_whole" "_law_is_whole" (defArgs s__law_is_whole) (defBody s__law_is_whole) (defScope s__law_is_whole) .none kv__law_is_whole dc__law_is_whole pm__law_is_whole an__law_is_whole cd__law_is_whole ct__law_is_whole), sl__law_is_whole⟩)
    (c__law_is_whole : PySem.W.codeIn K cd__law_is_whole "_law_is_whole" = true)
    (k__law_is_whole : PySem.W.keepIn K (.ref f__law_is_whole) = true)
    (a__law_is_step : PySem.W.nsIn K mainGlobals "_law_is_step" = some (some (.ref f__law_is_step)))
    (l__law_is_step : K.lookup f__law_is_step = some ⟨oc__law_is_step, od__law_is_step, .func (PySem.W.fnOf "_law_is_step" "_law_is_step" (defArgs s__law_is_step) (defBody s__law_is_step) (defScope s__law_is_step) .none kv__law_is_step dc__law_is_step pm__law_is_step an__law_is_step cd__law_is_step ct__law_is_step), sl__law_is_step⟩)
    (c__law_is_step : PySem.W.codeIn K cd__law_is_step "_law_is_step" = true)
    (k__law_is_step : PySem.W.keepIn K (.ref f__law_is_step) = true)
    (a__law_is_entry : PySem.W.nsIn K mainGlobals "_law_is_entry" = some (some (.ref f__law_is_entry)))
    (l__law_is_entry : K.lookup f__law_is_entry = some ⟨oc__law_is_entry, od__law_is_entry, .func (PySem.W.fnOf "_law_is_entry" "_law_is_entry" (defArgs s__law_is_entry) (defBody s__law_is_entry) (defScope s__law_is_entry) .none kv__law_is_entry dc__law_is_entry pm__law_is_entry an__law_is_entry cd__law_is_entry ct__law_is_entry), sl__law_is_entry⟩)
    (c__law_is_entry : PySem.W.codeIn K cd__law_is_entry "_law_is_entry" = true)
    (k__law_is_entry : PySem.W.keepIn K (.ref f__law_is_entry) = true)
    (a_law : PySem.W.nsIn K mainGlobals "law" = some (some (.ref f_law)))
    (l_law : K.lookup f_law = some ⟨oc_law, od_law, .func (PySem.W.fnOf "law" "law" (defArgs s_law) (defBody s_law) (defScope s_law) .none kv_law dc_law pm_law an_law cd_law ct_law), sl_law⟩)
    (c_law : PySem.W.codeIn K cd_law "law" = true)
    (k_law : PySem.W.keepIn K (.ref f_law) = true)
    (b_len : PySem.W.nsIn K mainGlobals "len" = some none)
    (b_abs : PySem.W.nsIn K mainGlobals "abs" = some none)
    (b_max : PySem.W.nsIn K mainGlobals "max" = some none)
    (b_min : PySem.W.nsIn K mainGlobals "min" = some none)
    (b_tuple : PySem.W.nsIn K mainGlobals "tuple" = some none)
    (b_list : PySem.W.nsIn K mainGlobals "list" = some none)
    (b_all : PySem.W.nsIn K mainGlobals "all" = some none)
    (b_any : PySem.W.nsIn K mainGlobals "any" = some none)
    (b_sorted : PySem.W.nsIn K mainGlobals "sorted" = some none)
    (b_set : PySem.W.nsIn K mainGlobals "set" = some none)
    (b_isinstance : PySem.W.nsIn K mainGlobals "isinstance" = some none)
    (b_range : PySem.W.nsIn K mainGlobals "range" = some none)
    (b_enumerate : PySem.W.nsIn K mainGlobals "enumerate" = some none)
    (b_zip : PySem.W.nsIn K mainGlobals "zip" = some none)
    (b_int : PySem.W.nsIn K mainGlobals "int" = some none)
    (b_str : PySem.W.nsIn K mainGlobals "str" = some none)
    (b_bool : PySem.W.nsIn K mainGlobals "bool" = some none)
    (b_dict : PySem.W.nsIn K mainGlobals "dict" = some none)
    (b_repr : PySem.W.nsIn K mainGlobals "repr" = some none)
    (b_sum : PySem.W.nsIn K mainGlobals "sum" = some none)
    (b_type : PySem.W.nsIn K mainGlobals "type" = some none)
    (b_reversed : PySem.W.nsIn K mainGlobals "reversed" = some none)
    (g_LETTERS : PySem.W.nsIn K mainGlobals "LETTERS" = some (some (.str "abcdefghijklmnopqrstuvwxyz" tk_LETTERS)))
    (g_MOST_LETTERS : PySem.W.nsIn K mainGlobals "MOST_LETTERS" = some (some (.int 8 tk_MOST_LETTERS)))
    (g_MOST_STEPS : PySem.W.nsIn K mainGlobals "MOST_STEPS" = some (some (.int 4 tk_MOST_STEPS)))
    (g_MOST_TIMES : PySem.W.nsIn K mainGlobals "MOST_TIMES" = some (some (.int 9 tk_MOST_TIMES)))
    (hlaw : ∀ (ns : List Int), ns.length ≤ 63 → ∀ (R : DK) (xe : Exn → Oh → Prop), (∀ O', R (.d (.bool true)) O') → w_law [.d (.dict [(.none, .list (ns.map PyData.int))])] [] R xe) :
    ∃ fd : FuncData, (∀ (s : Shared) (v : Value), BindsTo s fd ⟨[v], []⟩ [("_law_script", v)]) ∧ ∀ base : Heap, K.In base → base.Ns mainGlobals mg → FnOkG l.prog w K mg base (LM.CX true l.prog w) 45 fa fd ["_law_script"] (spLaw K) := by
  have e := hfa.symm.trans (PySem.W.mg_of X G a_law)
  cases e
  have nb : NB mg := ⟨PySem.W.mg_none_of X G b_len, PySem.W.mg_none_of X G b_abs, PySem.W.mg_none_of X G b_max, PySem.W.mg_none_of X G b_min, PySem.W.mg_none_of X G b_tuple, PySem.W.mg_none_of X G b_list, PySem.W.mg_none_of X G b_all, PySem.W.mg_none_of X G b_any, PySem.W.mg_none_of X G b_sorted, PySem.W.mg_none_of X G b_set, PySem.W.mg_none_of X G b_isinstance, PySem.W.mg_none_of X G b_range, PySem.W.mg_none_of X G b_enumerate, PySem.W.mg_none_of X G b_zip, PySem.W.mg_none_of X G b_int, PySem.W.mg_none_of X G b_str, PySem.W.mg_none_of X G b_bool, PySem.W.mg_none_of X G b_dict, PySem.W.mg_none_of X G b_repr, PySem.W.mg_none_of X G b_sum, PySem.W.mg_none_of X G b_type, PySem.W.mg_none_of X G b_reversed⟩
  have F_is_name := fun_mk (st := s_is_name) l_is_name c_is_name k_is_name
  have B_is_name := F_is_name.binds (ps := ["thing"]) fun _ _ _ _ _ _ us hl => match us, hl with | [_], _ => rfl
  have F_is_whole := fun_mk (st := s_is_whole) l_is_whole c_is_whole k_is_whole
  have B_is_whole := F_is_whole.binds (ps := ["thing"]) fun _ _ _ _ _ _ us hl => match us, hl with | [_], _ => rfl
  have F_is_step := fun_mk (st := s_is_step) l_is_step c_is_step k_is_step
  have B_is_step := F_is_step.binds (ps := ["thing"]) fun _ _ _ _ _ _ us hl => match us, hl with | [_], _ => rfl
  have F_are_steps := fun_mk (st := s_are_steps) l_are_steps c_are_steps k_are_steps
  have B_are_steps := F_are_steps.binds (ps := ["thing"]) fun _ _ _ _ _ _ us hl => match us, hl with | [_], _ => rfl
  have F_is_entry := fun_mk (st := s_is_entry) l_is_entry c_is_entry k_is_entry
  have B_is_entry := F_is_entry.binds (ps := ["thing"]) fun _ _ _ _ _ _ us hl => match us, hl with | [_], _ => rfl
  have F__law_pot := fun_mk (st := s__law_pot) l__law_pot c__law_pot k__law_pot
  have B__law_pot := F__law_pot.binds (ps := ["_law_script", "_law_k"]) fun _ _ _ _ _ _ us hl => match us, hl with | [_, _], _ => rfl
  have F__law_digit := fun_mk (st := s__law_digit) l__law_digit c__law_digit k__law_digit
  have B__law_digit := F__law_digit.binds (ps := ["_law_pot_here", "_law_many"]) fun _ _ _ _ _ _ us hl => match us, hl with | [_, _], _ => rfl
  have F__law_names := fun_mk (st := s__law_names) l__law_names c__law_names k__law_names
  have B__law_names := F__law_names.binds (ps := ["_law_pot_here", "_law_many"]) fun _ _ _ _ _ _ us hl => match us, hl with | [_, _], _ => rfl
  have F__law_number := fun_mk (st := s__law_number) l__law_number c__law_number k__law_number
  have B__law_number := F__law_number.binds (ps := ["_law_pot_here"]) fun _ _ _ _ _ _ us hl => match us, hl with | [_], _ => rfl
  have F__law_step := fun_mk (st := s__law_step) l__law_step c__law_step k__law_step
  have B__law_step := F__law_step.binds (ps := ["_law_pot_here", "_law_names_here", "_law_at"]) fun _ _ _ _ _ _ us hl => match us, hl with | [_, _, _], _ => rfl
  have F__law_entry := fun_mk (st := s__law_entry) l__law_entry c__law_entry k__law_entry
  have B__law_entry := F__law_entry.binds (ps := ["_law_pot_here", "_law_names_here", "_law_at"]) fun _ _ _ _ _ _ us hl => match us, hl with | [_, _, _], _ => rfl
  have F__law_paths := fun_mk (st := s__law_paths) l__law_paths c__law_paths k__law_paths
  have B__law_paths := F__law_paths.binds (ps := ["_law_thing"]) fun _ _ _ _ _ _ us hl => match us, hl with | [_], _ => rfl
  have F__law_part := fun_mk (st := s__law_part) l__law_part c__law_part k__law_part
  have B__law_part := F__law_part.binds (ps := ["_law_thing", "_law_path"]) fun _ _ _ _ _ _ us hl => match us, hl with | [_, _], _ => rfl
  have F__law_with := fun_mk (st := s__law_with) l__law_with c__law_with k__law_with
  have B__law_with := F__law_with.binds (ps := ["_law_thing", "_law_path", "_law_part_here"]) fun _ _ _ _ _ _ us hl => match us, hl with | [_, _, _], _ => rfl
  have F__law_odd := fun_mk (st := s__law_odd) l__law_odd c__law_odd k__law_odd
  have B__law_odd := F__law_odd.binds (ps := ["_law_pot_here"]) fun _ _ _ _ _ _ us hl => match us, hl with | [_], _ => rfl
  have F__law_turned := fun_mk (st := s__law_turned) l__law_turned c__law_turned k__law_turned
  have B__law_turned := F__law_turned.binds (ps := ["_law_pot_here", "_law_part_here", "_law_way"]) fun _ _ _ _ _ _ us hl => match us, hl with | [_, _, _], _ => rfl
  have F__law_spoilt := fun_mk (st := s__law_spoilt) l__law_spoilt c__law_spoilt k__law_spoilt
  have B__law_spoilt := F__law_spoilt.binds (ps := ["_law_pot_here", "_law_thing"]) fun _ _ _ _ _ _ us hl => match us, hl with | [_, _], _ => rfl
  have F__law_is_name := fun_mk (st := s__law_is_name) l__law_is_name c__law_is_name k__law_is_name
  have B__law_is_name := F__law_is_name.binds (ps := ["_law_thing"]) fun _ _ _ _ _ _ us hl => match us, hl with | [_], _ => rfl
  have F__law_is_whole := fun_mk (st := s__law_is_whole) l__law_is_whole c__law_is_whole k__law_is_whole
  have B__law_is_whole := F__law_is_whole.binds (ps := ["_law_thing"]) fun _ _ _ _ _ _ us hl => match us, hl with | [_], _ => rfl
  have F__law_is_step := fun_mk (st := s__law_is_step) l__law_is_step c__law_is_step k__law_is_step
  have B__law_is_step := F__law_is_step.binds (ps := ["_law_thing"]) fun _ _ _ _ _ _ us hl => match us, hl with | [_], _ => rfl
  have F__law_is_entry := fun_mk (st := s__law_is_entry) l__law_is_entry c__law_is_entry k__law_is_entry
  have B__law_is_entry := F__law_is_entry.binds (ps := ["_law_thing"]) fun _ _ _ _ _ _ us hl => match us, hl with | [_], _ => rfl
  have F_law := fun_mk (st := s_law) l_law c_law k_law
  have B_law := F_law.binds (ps := ["_law_script"]) fun _ _ _ _ _ _ us hl => match us, hl with | [_], _ => rfl
  refine ⟨PySem.W.fnOf "law" "law" (defArgs s_law) (defBody s_law) (defScope s_law) .none kv_law dc_law pm_law an_law cd_law ct_law, fun s v => .of_eq rfl, fun base hK hG => ?_⟩
  have T_is_name : Has l.prog w K mg base "is_name" ["thing"] 1 w_is_name := ⟨_, _, ok_is_name F_is_name nb ⟨_, PySem.W.mg_of X G g_LETTERS⟩ ⟨_, PySem.W.mg_of X G g_MOST_LETTERS⟩, PySem.W.mg_of X G a_is_name, k_is_name, B_is_name⟩
  have T_is_whole : Has l.prog w K mg base "is_whole" ["thing"] 1 w_is_whole := ⟨_, _, ok_is_whole F_is_whole nb, PySem.W.mg_of X G a_is_whole, k_is_whole, B_is_whole⟩
  have T_is_step : Has l.prog w K mg base "is_step" ["thing"] 2 w_is_stepZ := ⟨_, _, ok_is_step F_is_step nb ⟨_, PySem.W.mg_of X G g_MOST_TIMES⟩ T_is_name T_is_whole, PySem.W.mg_of X G a_is_step, k_is_step, B_is_step⟩
  have T_are_steps : Has l.prog w K mg base "are_steps" ["thing"] 3 w_are_stepsZ := ⟨_, _, ok_are_steps F_are_steps nb ⟨_, PySem.W.mg_of X G g_MOST_STEPS⟩ T_is_step, PySem.W.mg_of X G a_are_steps, k_are_steps, B_are_steps⟩
  have T_is_entry : Has l.prog w K mg base "is_entry" ["thing"] 4 w_is_entryZ := ⟨_, _, ok_is_entry F_is_entry nb T_are_steps T_is_name T_is_whole, PySem.W.mg_of X G a_is_entry, k_is_entry, B_is_entry⟩
  have T__law_pot : Has l.prog w K mg base "_law_pot" ["_law_script", "_law_k"] 1 w__law_pot := ⟨_, _, ok__law_pot F__law_pot nb, PySem.W.mg_of X G a__law_pot, k__law_pot, B__law_pot⟩
  have T__law_digit : Has l.prog w K mg base "_law_digit" ["_law_pot_here", "_law_many"] 1 w__law_digit := ⟨_, _, ok__law_digit F__law_digit nb, PySem.W.mg_of X G a__law_digit, k__law_digit, B__law_digit⟩
  have T__law_names : Has l.prog w K mg base "_law_names" ["_law_pot_here", "_law_many"] 2 w__law_names := ⟨_, _, ok__law_names F__law_names nb T__law_digit, PySem.W.mg_of X G a__law_names, k__law_names, B__law_names⟩
  have T__law_number : Has l.prog w K mg base "_law_number" ["_law_pot_here"] 2 w__law_number := ⟨_, _, ok__law_number F__law_number nb T__law_digit, PySem.W.mg_of X G a__law_number, k__law_number, B__law_number⟩
  have T__law_step : Has l.prog w K mg base "_law_step" ["_law_pot_here", "_law_names_here", "_law_at"] 3 w__law_step := ⟨_, _, ok__law_step F__law_step nb T__law_digit T__law_number, PySem.W.mg_of X G a__law_step, k__law_step, B__law_step⟩
  have T__law_entry : Has l.prog w K mg base "_law_entry" ["_law_pot_here", "_law_names_here", "_law_at"] 4 w__law_entry := ⟨_, _, ok__law_entry F__law_entry nb T__law_digit T__law_number T__law_step, PySem.W.mg_of X G a__law_entry, k__law_entry, B__law_entry⟩
  have T__law_paths : ∀ n : Nat, Has l.prog w K mg base "_law_paths" ["_law_thing"] (3 + 1 * n) (w__law_paths n) := by
    intro n
    induction n with
    | zero => exact ⟨_, _, fnOk_no (fd := _), PySem.W.mg_of X G a__law_paths, k__law_paths, B__law_paths⟩
    | succ n ih =>
      have T__law_paths := ih
      exact ⟨_, _, ok__law_paths (j := 3 + 1 * n) (by omega) F__law_paths nb T__law_paths, PySem.W.mg_of X G a__law_paths, k__law_paths, B__law_paths⟩
  have T__law_paths := T__law_paths 40
  have T__law_part : Has l.prog w K mg base "_law_part" ["_law_thing", "_law_path"] 1 w__law_part := ⟨_, _, ok__law_part F__law_part nb, PySem.W.mg_of X G a__law_part, k__law_part, B__law_part⟩
  have T__law_with : ∀ n : Nat, Has l.prog w K mg base "_law_with" ["_law_thing", "_law_path", "_law_part_here"] (3 + 1 * n) (w__law_with n) := by
    intro n
    induction n with
    | zero => exact ⟨_, _, fnOk_no (fd := _), PySem.W.mg_of X G a__law_with, k__law_with, B__law_with⟩
    | succ n ih =>
      have T__law_with := ih
      exact ⟨_, _, ok__law_with (j := 3 + 1 * n) (by omega) F__law_with nb T__law_with, PySem.W.mg_of X G a__law_with, k__law_with, B__law_with⟩
  have T__law_with := T__law_with 40
  have T__law_odd : Has l.prog w K mg base "_law_odd" ["_law_pot_here"] 2 w__law_odd := ⟨_, _, ok__law_odd F__law_odd nb T__law_digit, PySem.W.mg_of X G a__law_odd, k__law_odd, B__law_odd⟩
  have T__law_turned : Has l.prog w K mg base "_law_turned" ["_law_pot_here", "_law_part_here", "_law_way"] 3 w__law_turned := ⟨_, _, ok__law_turned F__law_turned nb T__law_digit T__law_odd, PySem.W.mg_of X G a__law_turned, k__law_turned, B__law_turned⟩
  have T__law_spoilt : Has l.prog w K mg base "_law_spoilt" ["_law_pot_here", "_law_thing"] 44 w__law_spoilt := ⟨_, _, ok__law_spoilt F__law_spoilt nb T__law_digit T__law_odd T__law_part T__law_paths T__law_turned T__law_with, PySem.W.mg_of X G a__law_spoilt, k__law_spoilt, B__law_spoilt⟩
  have T__law_is_name : Has l.prog w K mg base "_law_is_name" ["_law_thing"] 1 w__law_is_nameB := ⟨_, _, ok__law_is_name F__law_is_name nb, PySem.W.mg_of X G a__law_is_name, k__law_is_name, B__law_is_name⟩
  have T__law_is_whole : Has l.prog w K mg base "_law_is_whole" ["_law_thing"] 1 w__law_is_whole := ⟨_, _, ok__law_is_whole F__law_is_whole nb, PySem.W.mg_of X G a__law_is_whole, k__law_is_whole, B__law_is_whole⟩
  have T__law_is_step : Has l.prog w K mg base "_law_is_step" ["_law_thing"] 2 w__law_is_step := ⟨_, _, ok__law_is_step F__law_is_step nb T__law_is_name T__law_is_whole, PySem.W.mg_of X G a__law_is_step, k__law_is_step, B__law_is_step⟩
  have T__law_is_entry : Has l.prog w K mg base "_law_is_entry" ["_law_thing"] 3 w__law_is_entry := ⟨_, _, ok__law_is_entry F__law_is_entry nb T__law_is_name T__law_is_step T__law_is_whole, PySem.W.mg_of X G a__law_is_entry, k__law_is_entry, B__law_is_entry⟩
  exact (ok_law (P := l.prog) (w := w) (base := base) F_law nb T__law_digit T__law_entry T__law_is_entry T__law_names T__law_pot T__law_spoilt T_is_entry).imp fun vs H Q E h => law_in (fun _ h => nomatch h) hlaw h
theorem walk {l : PySem.W.OpenLaw} {q : Program} {loose : List Str} {XP : (Str → Option Value) → Heap → Prop} {YP : World → Heap → Prop} {d : DefRec} {K : Params → Fg} (hn : l.most = some 63) (hdf : d.params.defaults = [])
    (hY : ∀ (w : World) (h : Heap), YP w h → (K w.params).In h)
    (F : ∀ (w : World) (mg : Str → Option Value) (fa : Addr) (h : Heap), (K w.params).In h → h.Ns mainGlobals mg → mg d.name = some (.ref fa) →
      ∃ fd : FuncData, (∀ (s : Shared) (u : Value), BindsTo s fd ⟨[u], []⟩ [("_law_script", u)]) ∧ ∀ base : Heap, (K w.params).In base → base.Ns mainGlobals mg → FnOkG l.prog w (K w.params) mg base (LM.CX true l.prog w) 45 fa fd ["_law_script"] (spLaw (K w.params))) :
    PySem.W.WalkO q loose XP YP l.row.toRowW d [] (fun f vs => PySem.call f vs) :=
  walk_ofG (n := 63) (k := 45) (x := "_law_script") (CX := fun w => LM.CX true l.prog w) (sp := fun w => spLaw (K w.params)) hn (by decide) hdf ⟨rfl, by decide, by decide⟩ hY F (fun _ _ a ns hl _ hS => ⟨a, ns, rfl, hS, hl, fun _ => rfl⟩) fun _ _ _ _ _ z => no_cx z
end Dl
open PySem PySem.W PyProof.Rows
set_option maxRecDepth 100000 in
set_option maxHeartbeats 0 in
theorem PySem.Challenge.cw_parentlines_k31_entries_told_apart_holds : PySem.Challenge.rw_parentlines_k31_entries_told_apart.Holds := by
  w_on; o_law; k_head; (case hw => w_witness2)
  k_fill
  refine Dl.walk (l := PySem.Challenge.rw_parentlines_k31_entries_told_apart) rfl rfl (fun w h Y => PySem.W.kIn_of Y) ?F
  case F =>
    intro w mg fa h KX G hmg
    refine' Dl.all_mk KX G hmg ?a_is_name ?l_is_name ?c_is_name ?k_is_name ?a_is_whole ?l_is_whole ?c_is_whole ?k_is_whole ?a_is_step ?l_is_step ?c_is_step ?k_is_step ?a_are_steps ?l_are_steps ?c_are_steps ?k_are_steps ?a_is_entry ?l_is_entry ?c_is_entry ?k_is_entry ?a__law_pot ?l__law_pot ?c__law_pot ?k__law_pot ?a__law_digit ?l__law_digit ?c__law_digit ?k__law_digit ?a__law_names ?l__law_names ?c__law_names ?k__law_names ?a__law_number ?l__law_number ?c__law_number ?k__law_number ?a__law_step ?l__law_step ?c__law_step ?k__law_step ?a__law_entry ?l__law_entry ?c__law_entry ?k__law_entry ?a__law_paths ?l__law_paths ?c__law_paths ?k__law_paths ?a__law_part ?l__law_part ?c__law_part ?k__law_part ?a__law_with ?l__law_with ?c__law_with ?k__law_with ?a__law_odd ?l__law_odd ?c__law_odd ?k__law_odd ?a__law_turned ?l__law_turned ?c__law_turned ?k__law_turned ?a__law_spoilt ?l__law_spoilt ?c__law_spoilt ?k__law_spoilt ?a__law_is_name ?l__law_is_name ?c__law_is_name ?k__law_is_name ?a__law_is_whole ?l__law_is_whole ?c__law_is_whole ?k__law_is_whole ?a__law_is_step ?l__law_is_step ?c__law_is_step ?k__law_is_step ?a__law_is_entry ?l__law_is_entry ?c__law_is_entry ?k__law_is_entry ?a_law ?l_law ?c_law ?k_law ?b_len ?b_abs ?b_max ?b_min ?b_tuple ?b_list ?b_all ?b_any ?b_sorted ?b_set ?b_isinstance ?b_range ?b_enumerate ?b_zip ?b_int ?b_str ?b_bool ?b_dict ?b_repr ?b_sum ?b_type ?b_reversed ?g_LETTERS ?g_MOST_LETTERS ?g_MOST_STEPS ?g_MOST_TIMES Dl.law_true
    (case a_is_name => k_is)
    (case l_is_name => k_is)
    (case c_is_name => k_is)
    (case k_is_name => k_is)
    (case a_is_whole => k_is)
    (case l_is_whole => k_is)
    (case c_is_whole => k_is)
    (case k_is_whole => k_is)
    (case a_is_step => k_is)
    (case l_is_step => k_is)
    (case c_is_step => k_is)
    (case k_is_step => k_is)
    (case a_are_steps => k_is)
    (case l_are_steps => k_is)
    (case c_are_steps => k_is)
    (case k_are_steps => k_is)
    (case a_is_entry => k_is)
    (case l_is_entry => k_is)
    (case c_is_entry => k_is)
    (case k_is_entry => k_is)
    (case a__law_pot => k_is)
    (case l__law_pot => k_is)
    (case c__law_pot => k_is)
    (case k__law_pot => k_is)
    (case a__law_digit => k_is)
    (case l__law_digit => k_is)
    (case c__law_digit => k_is)
    (case k__law_digit => k_is)
    (case a__law_names => k_is)
    (case l__law_names => k_is)
    (case c__law_names => k_is)
    (case k__law_names => k_is)
    (case a__law_number => k_is)
    (case l__law_number => k_is)
    (case c__law_number => k_is)
    (case k__law_number => k_is)
    (case a__law_step => k_is)
    (case l__law_step => k_is)
    (case c__law_step => k_is)
    (case k__law_step => k_is)
    (case a__law_entry => k_is)
    (case l__law_entry => k_is)
    (case c__law_entry => k_is)
    (case k__law_entry => k_is)
    (case a__law_paths => k_is)
    (case l__law_paths => k_is)
    (case c__law_paths => k_is)
    (case k__law_paths => k_is)
    (case a__law_part => k_is)
    (case l__law_part => k_is)
    (case c__law_part => k_is)
    (case k__law_part => k_is)
    (case a__law_with => k_is)
    (case l__law_with => k_is)
    (case c__law_with => k_is)
    (case k__law_with => k_is)
    (case a__law_odd => k_is)
    (case l__law_odd => k_is)
    (case c__law_odd => k_is)
    (case k__law_odd => k_is)
    (case a__law_turned => k_is)
    (case l__law_turned => k_is)
    (case c__law_turned => k_is)
    (case k__law_turned => k_is)
    (case a__law_spoilt => k_is)
    (case l__law_spoilt => k_is)
    (case c__law_spoilt => k_is)
    (case k__law_spoilt => k_is)
    (case a__law_is_name => k_is)
    (case l__law_is_name => k_is)
    (case c__law_is_name => k_is)
    (case k__law_is_name => k_is)
    (case a__law_is_whole => k_is)
    (case l__law_is_whole => k_is)
    (case c__law_is_whole => k_is)
    (case k__law_is_whole => k_is)
    (case a__law_is_step => k_is)
    (case l__law_is_step => k_is)
    (case c__law_is_step => k_is)
    (case k__law_is_step => k_is)
    (case a__law_is_entry => k_is)
    (case l__law_is_entry => k_is)
    (case c__law_is_entry => k_is)
    (case k__law_is_entry => k_is)
    (case a_law => k_is)
    (case l_law => k_is)
    (case c_law => k_is)
    (case k_law => k_is)
    (case b_len => k_is)
    (case b_abs => k_is)
    (case b_max => k_is)
    (case b_min => k_is)
    (case b_tuple => k_is)
    (case b_list => k_is)
    (case b_all => k_is)
    (case b_any => k_is)
    (case b_sorted => k_is)
    (case b_set => k_is)
    (case b_isinstance => k_is)
    (case b_range => k_is)
    (case b_enumerate => k_is)
    (case b_zip => k_is)
    (case b_int => k_is)
    (case b_str => k_is)
    (case b_bool => k_is)
    (case b_dict => k_is)
    (case b_repr => k_is)
    (case b_sum => k_is)
    (case b_type => k_is)
    (case b_reversed => k_is)
    (case g_LETTERS => k_is)
    (case g_MOST_LETTERS => k_is)
    (case g_MOST_STEPS => k_is)
    (case g_MOST_TIMES => k_is)
