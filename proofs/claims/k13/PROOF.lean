import PyProof.Rows.All
import Wide.All
import OpenK.AllK
import Wide.FinOn
import HandS.ForMost
import HandS.ForExc
import HandS.Wide
import HandS.CallSlots
import HandS.ExcCtx
import HandS.SuiteRaise
import HandS.TupAny
import HandS.Strs
import HandS.Style
import HandS.IsInst
import HandS.Deep
import PyProof.Rows.SetFrom
import HandS.SetFor
import HandS.More
import HandS.Zip
import HandS.Conv
import KE.DataFind
import HandS.SetKeys
import HandS.RaiseOp
import HandS.Small
import HandS.NoneIn
import KE.SortData
import KE.DataMinMax
import HandS.Walk
import KE.GoesEnum
import KE.OsSortAny
import HandS.ExcInit
import HandS.ExcField
import HandS.ClsMeth
import HandS.IterVal
import KE.KDictZip
import HandS.TryElse
import HandS.Finally
import HandS.DictTup
import HandS.Defaults
import HandS.RaiseFrom
import HandS.ExcInitHot
import KE.KAsSuite
import HandS.Text
import HandS.ExcIs
import KE.KExcIs
import KE.KDictPairs
import HandS.TryOnly
import HandS.Iter
import HandS.TupLen
import KE.KEqDict
import KE.GoesZip
import KE.GoesMore
import KE.KDictItemsList
import PyProof.ReprReads
import PySem.Challenge.RW_parentlines_k13_whole_told_row_says_noth
set_option Elab.async false
set_option linter.all false
set_option maxRecDepth 100000
set_option maxHeartbeats 4000000
set_option maxHeartbeats 8000000
/-! ### exceptions whose context is None, or one whose context is None -/
namespace LM
open PySem PySem.Spec PyProof.Rows L2
abbrev St := L2.St
/-- the context, as it stands -/
abbrev Ctx := Option (Addr × Obj)
def cv : Ctx → Value
  | none => .none
  | some p => .ref p.1
def Zm (cls : Value) (d : Option Addr) (c : Ctx) : Obj → Prop := fun o => o.cls = cls ∧ o.dict = d ∧ ∀ vs : Array Value, o.data = .fields vs → vs[2]? = some (cv c)
theorem steady_cv {c : Ctx} : PXN.Steady1 (fun o => ∀ vs : Array Value, o.data = .fields vs → vs[2]? = some (cv c)) := fun o v h => by
  obtain ⟨k, d, dt, sl⟩ := o
  cases dt with
  | fields vs0 =>
    intro vs e
    have e2 : vs0.setIfInBounds 1 v = vs := Data.fields.inj e
    have e3 : (vs0.setIfInBounds 1 v)[2]? = vs0[2]? := by
      first
      | exact Array.getElem?_setIfInBounds_ne (by decide)
      | simp [Array.getElem?_setIfInBounds]
    rw [← e2, e3]
    exact h vs0 rfl
  | _ =>
    intro vs e
    first
    | exact Data.noConfusion e
    | cases e
theorem Zm.steady {cls : Value} {d : Option Addr} {c : Ctx} : PXN.Steady1 (Zm cls d c) := fun o v h => ⟨PXN.steady_cls o v h.1, PXN.steady_dict o v h.2.1, steady_cv o v h.2.2⟩
/-- F: whether there may be a context at all -/
def CtxOk (F : Bool) (B : Heap) (H : Hp) (c : Ctx) : Prop := ∀ p, c = some p → F = true ∧ B.get? p.1 = some p.2 ∧ H p.1 = none ∧ ∃ vy : Array Value, p.2.data = .fields vy ∧ vy[2]? = some .none
theorem ctx_none {F : Bool} {B : Heap} {H : Hp} : CtxOk F B H none := fun _ e => nomatch e
theorem CtxOk.imp {F : Bool} {B : Heap} {H : Hp} {c : Ctx} (h : CtxOk F B H c) : CtxOk true B H c := fun p e => ⟨rfl, (h p e).2⟩
def XE (F : Bool) (X : Cx) (W : WX) (u : Value) (s' : Shared) : Prop :=
  ∃ (a : Addr) (B : Heap) (sI : Shared) (pins : List (Addr × Obj)) (σ : St) (H : Hp) (cls : Value) (d : Option Addr) (c : Ctx),
    u = .ref a ∧ Inv X pins σ H sI ∧ (∀ b o, sI.heap.get? b = some o → b ∉ frs X.stack → B.get? b = some o) ∧ sI.heap.UpToSlots s'.heap ∧
      Sky B X.stack a (Zm cls d c) X.env.locals s'.heap ∧ H a = none ∧ s'.os = sI.os ∧ AllBare s'.gens ∧ CtxOk F B H c ∧ W cls d σ H
def Takes (F : Bool) (X : Cx) (W : WX) : Prop := ∀ u s', XE F X W u s' → X.xe u s'
theorem takesN {X : Cx} {W : WX} : L2N.Takes X W ↔ Takes false X W := by
  constructor
  · rintro t u s' ⟨a, B, sI, pins, σ, H, cls, d, c, e, I, nb, up, sky, na, os, ag, ck, w⟩
    cases c with
    | none => exact t u s' ⟨a, B, sI, pins, σ, H, cls, d, e, I, nb, up, sky, na, os, ag, w⟩
    | some p => exact Bool.noConfusion (ck p rfl).1
  · rintro t u s' ⟨a, B, sI, pins, σ, H, cls, d, e, I, nb, up, sky, na, os, ag, w⟩
    exact t u s' ⟨a, B, sI, pins, σ, H, cls, d, none, e, I, nb, up, sky, na, os, ag, ctx_none, w⟩
theorem tn_of {X : Cx} {W : WX} (t : Takes true X W) : L2N.Takes X W := takesN.mpr fun u s' ⟨a, B, sI, pins, σ, H, cls, d, c, e, I, nb, up, sky, na, os, ag, ck, w⟩ => t u s' ⟨a, B, sI, pins, σ, H, cls, d, c, e, I, nb, up, sky, na, os, ag, ck.imp, w⟩
def CX (F : Bool) (P : Program) (w : World) (outer : List Env) (H : Hp) (s : Shared) (E : XK) (u : Value) (s' : Shared) : Prop :=
  ∃ (a : Addr) (B : Heap) (H' : Hp) (cls : Value) (d : Option Addr) (c : Ctx), u = .ref a ∧ HandSPX.FlyingZ B outer a (Zm cls d c) s'.heap ∧ HOk P w H' B ∧ UB (frs outer) H H' s.heap B s'.heap ∧ H' a = none ∧ s'.os = s.os ∧ AllBare s'.gens ∧ CtxOk F B H' c ∧ E cls d H'
section
variable {F : Bool} {X : Cx} {pins : List (Addr × Obj)} {σ : St} {H : Hp} {sI s s' : Shared} {B : Heap} {W : WX} {E : XK}
/-- a call's exception is in our air -/
theorem XE.of_call (I : Inv X pins σ H s) (hW : ∀ cls d H', E cls d H' → W cls d σ H') {u : Value} (c : CX F X.prog X.w X.stack H s E u s') : XE F X W u s' := by
  obtain ⟨a, B, H', cls, d, c, rfl, fl, hok, ub, na, os, ag, ck, hE⟩ := c
  obtain ⟨G, g1, g2⟩ := restrict s'.heap fun b => (B.get? b).isSome || decide (b ∈ frs X.stack)
  have st : B.StaysIn s'.heap := fl.1
  have gB : ∀ b o, B.get? b = some o → G.get? b = some o := fun b o e => by
    rw [g1 b (by simp [e])]
    exact st b o e
  have gF : ∀ b, b ∈ frs X.stack → G.get? b = s'.heap.get? b := fun b hb => g1 b (by simp [hb])
  have og : ∀ b o, G.get? b = some o → s'.heap.get? b = some o ∧ ((B.get? b).isSome = true ∨ b ∈ frs X.stack) := fun b o e => by
    cases q : ((B.get? b).isSome || decide (b ∈ frs X.stack)) with
    | false => rw [g2 b q] at e; cases e
    | true =>
      rw [g1 b q] at e
      exact ⟨e, by simpa [Bool.or_eq_true] using q⟩
  refine ⟨a, B, { s with heap := G, gens := s'.gens, drawn := s'.drawn, toks := s'.toks }, pins, σ, H', cls, d, c, rfl, ?_, fun b o e hb => ?_, Heap.UpToSlots.of_keeps fun b o e => (og b o e).1, .inr (.inl fl), na, os, ag, ck, hW _ _ _ hE⟩
  · refine I.call (ch := []) ⟨fun b o e n hb _ => gB b o (ub.keep b o e n hb), fun b o e n hb _ => ?_, fun b o e n _ => ub.free b o e n, fun b o e _ => ?_, ub.tups, ub.frzs, ub.tbls⟩ (hok.kept gB) ag (fun _ z => nomatch z)
    · obtain ⟨sl, q⟩ := ub.slot b o e hb
      exact ⟨sl, by rw [gF b hb]; exact q⟩
    · by_cases hb : b ∈ frs X.stack
      · obtain ⟨sl, q⟩ := ub.slot b o e hb
        exact ⟨_, by rw [gF b hb]; exact q⟩
      · obtain ⟨o', q⟩ := ub.there b o e hb
        exact ⟨o', gB b o' q⟩
  · obtain ⟨e', h⟩ := og b o e
    rcases h with h | h
    · obtain ⟨o', q⟩ := Option.isSome_iff_exists.mp h
      have z := st b o' q
      rw [e'] at z; cases z
      exact q
    · exact absurd h hb
/-- a new exception is in our air -/
theorem XE.new {a : Addr} {oe : Obj} {vs : Array Value} {cls : Value} {d : Option Addr} {c : Ctx} (I : Inv X pins σ H sI) (k : ∀ b o, sI.heap.get? b = some o → s'.heap.get? b = some o) (hne : sI.heap.get? a = none) (he : s'.heap.get? a = some oe)
    (hz : Zm cls d c oe) (hd : oe.data = .fields vs) (h1 : vs[1]? = some .none) (na : H a = none) (os : s'.os = sI.os) (ag : AllBare s'.gens) (ck : ∀ p, c = some p → F = true ∧ sI.heap.get? p.1 = some p.2 ∧ p.1 ∉ frs X.stack ∧ H p.1 = none ∧ ∃ vy : Array Value, p.2.data = .fields vy ∧ vy[2]? = some .none) (w : W cls d σ H) : XE F X W (.ref a) s' := by
  refine ⟨a, PySem.W.hideAll sI.heap (frs X.stack), sI, pins, σ, H, cls, d, c, rfl, I, fun b o e hb => PySem.W.hideAll_get _ e hb, Heap.UpToSlots.of_keeps k,
    .inl ⟨fun b o e => k b o (PySem.W.of_hideAll _ e), ?_, ?_, oe, vs, he, hz, hd, h1⟩, na, os, ag, fun p e => ?_, w⟩
  · cases q : (PySem.W.hideAll sI.heap (frs X.stack)).get? a with
    | none => rfl
    | some o =>
      have z := PySem.W.of_hideAll _ q
      rw [hne] at z; cases z
  · exact Heap.FunFrames.of_keeps (fun b o e _ => ⟨o, k b o e, rfl⟩) (funFrames_none I.stack fun b hb => PySem.W.hideAll_none _ hb)
  · obtain ⟨h1, h2, h3, h4, h5⟩ := ck p e
    exact ⟨h1, PySem.W.hideAll_get _ h2 h3, h4, h5⟩
/-- it leaves the def -/
theorem XE.leave (hs : X.stack = X.env :: X.outer) (hf : X.env.frame = some X.env.locals) (hex : X.ex = []) {E₁ : Value → Shared → Prop} (hW : ∀ cls d σ H, W cls d σ H → E cls d H) {u : Value} (x : XE F X W u s') :
    wpAny (model X.prog X.w) X.A (leaving X.env u) (fun _ s'' => CX F X.prog X.w X.outer X.H_0 X.s_0 E u s'') E₁ s' := by
  obtain ⟨a, B, sI, pins, σ, H, cls, d, c, rfl, I, nb, up, sky, na, os, ag, ck, w⟩ := x
  have hfr : X.A.frames = some (X.env :: X.outer) := by rw [I.ok.frames, hs]
  have nst : ∀ b o, X.s_0.heap.get? b = some o → b ∉ X.fs → b ∉ frs X.stack := fun b o e hb hm => by
    rcases List.mem_cons.mp (I.stkSub b hm) with z | z
    · have h1 := Heap.lt_size e
      have h2 := I.ok.above
      rw [z] at h1
      exact absurd (Nat.lt_of_lt_of_le h1 h2) (Nat.lt_irrefl _)
    · exact hb z
  have hex' : ∀ b, b ∉ X.ex := fun b hb => by rw [hex] at hb; cases hb
  have hokB := I.inGround nb
  have fin : ∀ h', HandSPX.FlyingZ B X.outer a (Zm cls d c) h' → s'.heap.UpToSlots h' → CX F X.prog X.w X.outer X.H_0 X.s_0 E (.ref a) { s' with heap := h' } := fun h' fl up' => by
    refine ⟨a, B, H, cls, d, c, rfl, fl, hokB, ⟨fun b o e n hb => nb b o (I.base.keep b o e n hb (hex' b)) (nst b o e hb), fun b o e hb => ?_, fun b o e n => I.base.free b o e n (hex' b), fun b o e hb => ?_, I.base.tups, I.base.frzs, I.base.tbls⟩,
      na, os.trans I.os, ag, ck, hW _ _ _ _ w⟩
    · obtain ⟨_, o₀, e₀, hnf⟩ := I.ok.funs.mem hb
      rw [e] at e₀; cases e₀
      obtain ⟨sl, e1⟩ := I.base.slot b o e (I.ok.frf b hb) hb (hex' b)
      obtain ⟨sl2, e2⟩ := up b _ e1 hnf
      obtain ⟨sl3, e3⟩ := up' b _ e2 hnf
      exact ⟨sl3, e3⟩
    · obtain ⟨o', e1⟩ := I.base.there b o e (hex' b)
      exact ⟨o', nb b o' e1 (nst b o e hb)⟩
  rw [hs] at sky
  rcases sky with ⟨hB, hn, hl, oe, vs, he, hz, hd, h1⟩ | fl | hd
  · exact PXN.leaving_firstZ Zm.steady hfr hl hf he hB hn hd h1 hz fin
  · exact PXN.leaves_onZ Zm.steady hfr hf fl fin
  · exact HandSPX.leaves_heldZ hf hd fin
theorem takes_of (hs : X.stack = X.env :: X.outer) (hf : X.env.frame = some X.env.locals) (hex : X.ex = []) {E₁ : Value → Shared → Prop}
    (hx : X.xe = fun e s' => wpAny (model X.prog X.w) X.A (leaving X.env e) (fun _ s'' => CX F X.prog X.w X.outer X.H_0 X.s_0 E e s'') E₁ s') : Takes F X (fun cls d _ H => E cls d H) := fun u s' x => by
  rw [hx]
  exact XE.leave (W := fun cls d _ H => E cls d H) (E := E) hs hf hex (fun _ _ _ _ h => h) x
theorem passAt {X : Cx} {W : WX} (tk : Takes F X W) (σ : St) : PassesAt (CX F X.prog X.w) X σ (WE W σ) := fun _ _ _ e s' I c => tk e s' (XE.of_call I (fun _ _ _ h => h) c)
end
/-- the head is the exception that is handled, behind it may stand its context -/
def HotL (A : Around) : List (Addr × Obj) → Prop
  | [] => False
  | q :: r => A.handled = some (.ref q.1) ∧ ∃ vs : Array Value, q.2.data = .fields vs ∧ (vs[2]? = some .none ∨ ∃ y ∈ r, vs[2]? = some (.ref y.1) ∧ ∃ vy : Array Value, y.2.data = .fields vy ∧ vy[2]? = some .none)
/-! #### try, clauses with or without names, else -/
end LM
/-! ### a layer of values over the hand layer: readings without addresses -/
namespace Dl
open PySem PySem.Spec PyProof.Rows L2
abbrev Fg := PySem.W.Frag
/-- data | a cell | a tuple that is a key of a dict | a pair that a walk hands out, of data, of a key and data | an exception that is handled, by its place -/
inductive W where
  | d (x : PyData)
  | c (k : Nat)
  | k (ks : List Key)
  | p (ds : List PyData)
  | q (ks : List Key) (x : PyData)
  | o (a : Addr) (d : Option Addr) (fs : List (Str × PyData))
  | t (xs : List (PyData ⊕ Nat))
/-- what stands in a tuple that holds cells -/
def tiW : PyData ⊕ Nat → W
  | .inl x => .d x
  | .inr k => .c k
inductive Cell where
  | lst (xs : List W)
  | dic (kvs : List (Key × W))
  | dct (kvs : List (List Key × W))
  | ldic (od : Obj) (es : List (Key × V)) (kvs : List (Key × W))
  | ldct (od : Obj) (es : List (List Key × V)) (kvs : List (List Key × W))
  | ins (C : Str) (fs : List (Str × W))
  | gone
abbrev Gm := List (Option W)
abbrev Oh := List Cell
structure Exn where
  cls : Str
  fs : List (Str × PyData)
abbrev DK := W → Oh → Prop
abbrev DX := Exn → Gm → Oh → Prop
abbrev DEx := Gm → Oh → DK → DX → Prop
abbrev DT := Gm → Oh → (Bool → Oh → Prop) → DX → Prop
abbrev DA := Gm → Oh → (List W → Oh → Prop) → DX → Prop
structure DEnds where
  nx : Gm → Oh → Prop
  rt : DK
  bk : Gm → Oh → Prop
  ct : Gm → Oh → Prop
abbrev DSt := DEnds → DX → Gm → Oh → Prop
abbrev DFn := List W → Oh → DK → (Exn → Oh → Prop) → Prop
/-! #### heaps that grow -/
def Ex (H H' : Hp) : Prop := ∀ a o, H a = some o → H' a = some o
theorem Ex.refl (H : Hp) : Ex H H := fun _ _ h => h
theorem Ex.trans {H H1 H2 : Hp} (a : Ex H H1) (b : Ex H1 H2) : Ex H H2 := fun x o h => b x o (a x o h)
theorem Ex.new {H : Hp} {p : Addr} {o : HO} (h : H p = none) : Ex H (upd H p o) := fun a u e => by
  rw [upd_ne (ne_of_none e h)]
  exact e
theorem Ex.free {H H' : Hp} {p : Addr} (e : Ex H H') (h : H' p = none) : H p = none := by
  cases h1 : H p with
  | none => rfl
  | some o => rw [e p o h1] at h; cases h
theorem Ex.rd {H H' : Hp} {a : Addr} {u : HO} (e : Ex H H') (h : Rd H a u) : Rd H' a u := by
  rcases h with h | ⟨o, h⟩
  · exact Or.inl (e a _ h)
  · exact Or.inr ⟨o, e a _ h⟩
theorem Ex.sqL {K : Fg} {H H' : Hp} {a : Addr} {xs : List V} (e : Ex H H') (h : SqL K H a xs) : SqL K H' a xs := h.imp e.rd id
theorem Ex.sqT {K : Fg} {H H' : Hp} {a : Addr} {xs : List V} (e : Ex H H') (h : SqT K H a xs) : SqT K H' a xs := h.imp e.rd id
/-! #### data that never changes -/
/-- the tuple at a has no dict of its own -/
def TD (K : Fg) (G : Hp) (a : Addr) : Prop := (∃ ob u, G a = some (.frz ob u) ∧ ob.dict = none) ∨ ∃ o, K.lookup a = some o ∧ o.dict = none
theorem TD.mono {K : Fg} {G G' : Hp} {a : Addr} (e : Ex G G') (h : TD K G a) : TD K G' a := h.imp (fun ⟨ob, u, h1, h2⟩ => ⟨ob, u, e _ _ h1, h2⟩) id
def keyD : Key → PyData
  | .inl i => .int i
  | .inr x => .str x
/-- texts of keys are texts -/
def keyOk : Key → Bool
  | .inl _ => true
  | .inr x => PyData.strOk x
mutual
inductive Rp (K : Fg) (G : Hp) : V → PyData → Prop
  | non : Rp K G .non .none
  | bl (b : Bool) : Rp K G (.bl b) (.bool b)
  | int (i : Int) : Rp K G (.int i) (.int i)
  | str (x : Str) : PyData.strOk x = true → Rp K G (.str x) (.str x)
  | lst {a : Addr} {xs : List V} {ds : List PyData} : G a = some (.lst xs) → RpL K G xs ds → Rp K G (.ref a) (.list ds)
  | tup {a : Addr} {xs : List V} {ds : List PyData} : SqT K G a xs → TD K G a → RpL K G xs ds → Rp K G (.ref a) (.tuple ds)
  | scr {a : Addr} (ns : List Int) : SqL K G a (ns.map V.int) → Rp K G (.ref a) (.dict [(.none, .list (ns.map PyData.int))])
  | dk {a : Addr} {ob : Obj} {es : List (Key × V)} {kvs : List (PyData × PyData)} : G a = some (.frz ob (.dK es)) → RpK K G es kvs → Rp K G (.ref a) (.dict kvs)
inductive RpL (K : Fg) (G : Hp) : List V → List PyData → Prop
  | nil : RpL K G [] []
  | cons {v : V} {vs : List V} {d : PyData} {ds : List PyData} : Rp K G v d → RpL K G vs ds → RpL K G (v :: vs) (d :: ds)
inductive RpK (K : Fg) (G : Hp) : List (Key × V) → List (PyData × PyData) → Prop
  | nil : RpK K G [] []
  | cons {k : Key} {v : V} {es : List (Key × V)} {q d : PyData} {kvs : List (PyData × PyData)} : q = keyD k → keyOk k = true → Rp K G v d → RpK K G es kvs → RpK K G ((k, v) :: es) ((q, d) :: kvs)
end
section
variable {K : Fg} {G G' : Hp}
mutual
theorem Rp.mono (e : Ex G G') : ∀ {d : PyData} {v : V}, Rp K G v d → Rp K G' v d
  | .none, _, h => by cases h; exact .non
  | .bool b, _, h => by cases h; exact .bl _
  | .int i, _, h => by cases h; exact .int _
  | .str x, _, h => by cases h with | str _ hx => exact .str _ hx
  | .list ds, _, h => by
    cases h with | lst hs ha => exact .lst (e _ _ hs) (RpL.mono e ha)
  | .tuple ds, _, h => by
    cases h with | tup hs td ha => exact .tup (e.sqT hs) (td.mono e) (RpL.mono e ha)
  | .dict kvs, _, h => by
    cases h with
    | scr ns h => exact .scr ns (e.sqL h)
    | dk hg hk => exact .dk (e _ _ hg) (RpK.mono e hk)
theorem RpL.mono (e : Ex G G') : ∀ {ds : List PyData} {vs : List V}, RpL K G vs ds → RpL K G' vs ds
  | [], _, h => by cases h; exact .nil
  | d :: ds, _, h => by
    cases h with | cons h1 h2 => exact .cons (Rp.mono e h1) (RpL.mono e h2)
theorem RpK.mono (e : Ex G G') : ∀ {kvs : List (PyData × PyData)} {es : List (Key × V)}, RpK K G es kvs → RpK K G' es kvs
  | [], _, h => by cases h; exact .nil
  | (q, d) :: kvs, _, h => by
    cases h with | cons h0 hk h1 h2 => exact .cons h0 hk (Rp.mono e h1) (RpK.mono e h2)
end
theorem RpL.length : ∀ {ds : List PyData} {vs : List V}, RpL K G vs ds → vs.length = ds.length
  | [], _, h => by cases h; rfl
  | d :: ds, _, h => by
    cases h with | cons h1 h2 => rw [List.length_cons, List.length_cons, RpL.length h2]
theorem RpL.get : ∀ {ds : List PyData} {vs : List V} {i : Nat} {d : PyData}, RpL K G vs ds → ds[i]? = some d → ∃ v, vs[i]? = some v ∧ Rp K G v d
  | [], _, _, _, _, e => by simp at e
  | d :: ds, _, 0, _, h, e => by
    cases h with
    | cons h1 h2 =>
      simp only [List.getElem?_cons_zero, Option.some.injEq] at e
      subst e
      exact ⟨_, rfl, h1⟩
  | d :: ds, _, i + 1, _, h, e => by
    cases h with
    | cons h1 h2 =>
      obtain ⟨v, q1, q2⟩ := RpL.get (i := i) h2 (by simpa using e)
      exact ⟨v, by simpa using q1, q2⟩
theorem RpL.append : ∀ {ds es : List PyData} {vs us : List V}, RpL K G vs ds → RpL K G us es → RpL K G (vs ++ us) (ds ++ es)
  | [], _, _, _, h, h' => by cases h; exact h'
  | d :: ds, _, _, _, h, h' => by
    cases h with | cons h1 h2 => exact .cons h1 (RpL.append h2 h')
theorem RpL.drop : ∀ {ds : List PyData} {vs : List V} (n : Nat), RpL K G vs ds → RpL K G (vs.drop n) (ds.drop n)
  | _, _, 0, h => h
  | [], _, n + 1, h => by cases h; exact .nil
  | d :: ds, _, n + 1, h => by
    cases h with | cons h1 h2 => exact RpL.drop n h2
theorem RpL.take : ∀ {ds : List PyData} {vs : List V} (n : Nat), RpL K G vs ds → RpL K G (vs.take n) (ds.take n)
  | _, _, 0, h => .nil
  | [], _, n + 1, h => by cases h; exact .nil
  | d :: ds, _, n + 1, h => by
    cases h with | cons h1 h2 => exact .cons h1 (RpL.take n h2)
theorem RpL.reverse : ∀ {ds : List PyData} {vs : List V}, RpL K G vs ds → RpL K G vs.reverse ds.reverse
  | [], _, h => by cases h; exact .nil
  | d :: ds, _, h => by
    cases h with
    | cons h1 h2 =>
      rw [List.reverse_cons, List.reverse_cons]
      exact (RpL.reverse h2).append (.cons h1 .nil)
theorem RpL.ints : ∀ (ns : List Int), RpL K G (ns.map V.int) (ns.map PyData.int)
  | [] => .nil
  | n :: r => .cons (.int n) (RpL.ints r)
/-! #### values -/
/-- the cells' addresses; what is hidden for a while, and stays -/
structure Al where
  as : List Addr
  hid : List (Addr × HO)
def Pre (α α' : Al) : Prop := α.as <+: α'.as ∧ α'.hid = α.hid
theorem Pre.refl (α : Al) : Pre α α := ⟨List.prefix_refl _, rfl⟩
theorem Pre.trans {α β γ : Al} (a : Pre α β) (b : Pre β γ) : Pre α γ := ⟨a.1.trans b.1, b.2.trans a.2⟩
def Al.push (α : Al) (p : Addr) : Al := ⟨α.as ++ [p], α.hid⟩
theorem Pre.push {α : Al} {p : Addr} : Pre α (α.push p) := ⟨List.prefix_append _ _, rfl⟩
def Al.cut (α : Al) (n : Nat) : Al := ⟨α.as.take n, α.hid⟩
theorem RpL.keys {K : Fg} {G : Hp} : ∀ {ks : List Key}, ks.all keyOk = true → RpL K G (ks.map kV) (ks.map keyD)
  | [], _ => .nil
  | .inl i :: r, h => by
    rw [List.all_cons, Bool.and_eq_true] at h
    exact .cons (.int i) (RpL.keys h.2)
  | .inr x :: r, h => by
    rw [List.all_cons, Bool.and_eq_true] at h
    exact .cons (.str x h.1) (RpL.keys h.2)
/-- an item of a tuple that holds cells -/
def Ri (K : Fg) (G : Hp) (α : Al) (v : V) : PyData ⊕ Nat → Prop
  | .inl x => Rp K G v x
  | .inr k => ∃ a, α.as[k]? = some a ∧ v = .ref a
def Rv (K : Fg) (G : Hp) (α : Al) (v : V) : W → Prop
  | .d x => Rp K G v x
  | .c k => ∃ a, α.as[k]? = some a ∧ v = .ref a
  | .k ks => ks.all keyOk = true ∧ ∃ a, v = .ref a ∧ G a = some (.tup (ks.map kV))
  | .p ds => ∃ a vs, v = .ref a ∧ SqT K G a vs ∧ RpL K G vs ds
  | .q ks x => ks.all keyOk = true ∧ ∃ a b u, v = .ref a ∧ SqT K G a [.ref b, u] ∧ G b = some (.tup (ks.map kV)) ∧ Rp K G u x
  | .o a d fs => v = .ref a ∧ (fs = [] → d = none) ∧ (fs ≠ [] → ∃ dd vs, d = some dd ∧ G dd = some (.xd vs) ∧ Paired (fun (p : Str × V) (q : Str × PyData) => p.1 = q.1 ∧ Rp K G p.2 q.2) vs fs)
  | .t xs => ∃ a vs, v = .ref a ∧ G a = some (.tup vs) ∧ Paired (Ri K G α) vs xs
abbrev RvL (K : Fg) (G : Hp) (α : Al) : List V → List W → Prop := Paired (Rv K G α)
variable {α α' : Al}
theorem fields_mono {K : Fg} {G G' : Hp} (e : Ex G G') : ∀ {vs : List (Str × V)} {fs : List (Str × PyData)}, Paired (fun (p : Str × V) (q : Str × PyData) => p.1 = q.1 ∧ Rp K G p.2 q.2) vs fs → Paired (fun (p : Str × V) (q : Str × PyData) => p.1 = q.1 ∧ Rp K G' p.2 q.2) vs fs
  | _, _, .nil => .nil
  | _, _, .cons h t => .cons ⟨h.1, h.2.mono e⟩ (fields_mono e t)
theorem pre_get {k : Nat} {a : Addr} (h : Pre α α') (e : α.as[k]? = some a) : α'.as[k]? = some a := by
  obtain ⟨⟨t, ht⟩, _⟩ := h
  rw [← ht, List.getElem?_append_left (List.getElem?_eq_some_iff.mp e).1]
  exact e
theorem RiL.mono (e : Ex G G') (p : Pre α α') : ∀ {vs : List V} {xs : List (PyData ⊕ Nat)}, Paired (Ri K G α) vs xs → Paired (Ri K G' α') vs xs
  | _, _, .nil => .nil
  | _, .inl x :: _, .cons h t => .cons (show Ri K G' α' _ (.inl x) from Rp.mono e h) (RiL.mono e p t)
  | _, .inr k :: _, .cons h t => .cons (show Ri K G' α' _ (.inr k) from by obtain ⟨a, h1, h2⟩ := h; exact ⟨a, pre_get p h1, h2⟩) (RiL.mono e p t)
theorem Rv.mono {v : V} {w : W} (e : Ex G G') (p : Pre α α') (h : Rv K G α v w) : Rv K G' α' v w := by
  cases w with
  | d x => exact Rp.mono e h
  | c k =>
    obtain ⟨a, h1, h2⟩ := h
    exact ⟨a, pre_get p h1, h2⟩
  | k ks =>
    obtain ⟨h0, a, h1, h2⟩ := h
    exact ⟨h0, a, h1, e _ _ h2⟩
  | p ds =>
    obtain ⟨a, vs, h1, h2, h3⟩ := h
    exact ⟨a, vs, h1, e.sqT h2, RpL.mono e h3⟩
  | q ks x =>
    obtain ⟨h0, a, b, u, h1, h2, h3, h4⟩ := h
    exact ⟨h0, a, b, u, h1, e.sqT h2, e _ _ h3, Rp.mono e h4⟩
  | o a d fs =>
    obtain ⟨h1, h0, h2⟩ := h
    refine ⟨h1, h0, fun z => ?_⟩
    obtain ⟨dd, vs, q1, q2, q3⟩ := h2 z
    exact ⟨dd, vs, q1, e _ _ q2, fields_mono e q3⟩
  | t xs =>
    obtain ⟨a, vs, h1, h2, h3⟩ := h
    exact ⟨a, vs, h1, e _ _ h2, RiL.mono e p h3⟩
theorem RvL.mono (e : Ex G G') (p : Pre α α') : ∀ {vs : List V} {ws : List W}, RvL K G α vs ws → RvL K G' α' vs ws
  | _, _, .nil => .nil
  | _, _, .cons h t => .cons (h.mono e p) (RvL.mono e p t)
theorem RvL.ofD : ∀ {ds : List PyData} {vs : List V}, RpL K G vs ds → RvL K G α vs (ds.map W.d)
  | [], _, h => by cases h; exact .nil
  | d :: ds, _, h => by
    cases h with | cons h1 h2 => exact .cons h1 (RvL.ofD h2)
theorem RvL.toD : ∀ {ds : List PyData} {vs : List V}, RvL K G α vs (ds.map W.d) → RpL K G vs ds
  | [], _, h => by cases h; exact .nil
  | d :: ds, _, h => by
    cases h with | cons h1 h2 => exact .cons h1 (RvL.toD h2)
theorem RiL.rv : ∀ {vs : List V} {xs : List (PyData ⊕ Nat)}, Paired (Ri K G α) vs xs → RvL K G α vs (xs.map tiW)
  | _, _, .nil => .nil
  | _, .inl x :: _, .cons h t => .cons (show Rv K G α _ (.d x) from h) (RiL.rv t)
  | _, .inr k :: _, .cons h t => .cons (show Rv K G α _ (.c k) from h) (RiL.rv t)
theorem RvL.len {vs : List V} {ws : List W} (h : RvL K G α vs ws) : vs.length = ws.length := Paired.length h
theorem RvL.get : ∀ {vs : List V} {ws : List W} {i : Nat} {w : W}, RvL K G α vs ws → ws[i]? = some w → ∃ v, vs[i]? = some v ∧ Rv K G α v w
  | _, _, _, _, .nil, e => by simp at e
  | _, _, 0, _, .cons r _, e => by simp at e; subst e; exact ⟨_, rfl, r⟩
  | _, _, i + 1, x, .cons _ t, e => by
    obtain ⟨u, h1, h2⟩ := RvL.get (i := i) (w := x) t (by simpa using e)
    exact ⟨u, by simpa using h1, h2⟩
theorem RvL.append : ∀ {vs us : List V} {ws zs : List W}, RvL K G α vs ws → RvL K G α us zs → RvL K G α (vs ++ us) (ws ++ zs)
  | _, _, _, _, .nil, h => h
  | _, _, _, _, .cons r t, h => .cons r (RvL.append t h)
theorem RvL.set {v : V} {w : W} (h : Rv K G α v w) : ∀ {vs : List V} {ws : List W} (i : Nat), RvL K G α vs ws → RvL K G α (vs.set i v) (ws.set i w)
  | _, _, _, .nil => .nil
  | _, _, 0, .cons _ t => .cons h t
  | _, _, i + 1, .cons q t => .cons q (RvL.set h i t)
theorem RvL.drop : ∀ {vs : List V} {ws : List W} (n : Nat), RvL K G α vs ws → RvL K G α (vs.drop n) (ws.drop n)
  | _, _, 0, h => h
  | _, _, _ + 1, .nil => .nil
  | _, _, n + 1, .cons _ t => RvL.drop n t
theorem RvL.take : ∀ {vs : List V} {ws : List W} (n : Nat), RvL K G α vs ws → RvL K G α (vs.take n) (ws.take n)
  | _, _, 0, h => .nil
  | _, _, _ + 1, .nil => .nil
  | _, _, n + 1, .cons r t => .cons r (RvL.take n t)
/-! #### cells: what changes -/
def RK (K : Fg) (G : Hp) (α : Al) {κ : Type} : List (κ × V) → List (κ × W) → Prop := Paired fun (p : κ × V) (q : κ × W) => p.1 = q.1 ∧ Rv K G α p.2 q.2
theorem RK.mono {κ : Type} (e : Ex G G') (p : Pre α α') : ∀ {vs : List (κ × V)} {ws : List (κ × W)}, RK K G α vs ws → RK K G' α' vs ws
  | _, _, .nil => .nil
  | _, _, .cons h t => .cons ⟨h.1, h.2.mono e p⟩ (RK.mono e p t)
def COk (K : Fg) (mg : Str → Option Value) (G : Hp) (α : Al) (H : Hp) (a : Addr) : Cell → Prop
  | .lst xs => G a = none ∧ ∃ vs, H a = some (.lst vs) ∧ RvL K G α vs xs
  | .dic kvs => G a = none ∧ ∃ es, H a = some (.dK es) ∧ RK K G α es kvs
  | .dct kvs => G a = none ∧ ∃ es, H a = some (.dT es) ∧ RK K G α es kvs
  | .ldic od es kvs => G a = none ∧ H a = some (.frz od (.dK es)) ∧ RK K G α es kvs
  | .ldct od es kvs => G a = none ∧ H a = some (.frz od (.dT es)) ∧ RK K G α es kvs
  | .ins C fs => G a = none ∧ ∃ Ca dx es, mg C = some (.ref Ca) ∧ H a = some (.ins Ca dx es) ∧ H dx = some (.own a) ∧ G dx = none ∧ dx ∉ α.as ∧ RK K G α es fs
  | .gone => True
/-- no dict of an instance, no tuple -/
def NoOT (o : HO) : Prop := (∀ b, o ≠ .own b) ∧ ∀ xs, o ≠ .tup xs
structure Rel (K : Fg) (mg : Str → Option Value) (G : Hp) (α : Al) (O : Oh) (H : Hp) : Prop where
  ex : Ex G H
  len : α.as.length = O.length
  nd : α.as.Nodup
  liv : ∀ a ∈ α.as, ∃ o, H a = some o
  at_ : ∀ (k : Nat) (a : Addr) (c : Cell), α.as[k]? = some a → O[k]? = some c → COk K mg G α H a c
  hd : ∀ p ∈ α.hid, H p.1 = some p.2 ∧ G p.1 = none ∧ p.1 ∉ α.as ∧ NoOT p.2
structure Sl (K : Fg) (G : Hp) (α : Al) (Γ : Gm) (σ : L2.St) : Prop where
  len : Γ.length = σ.length
  at_ : ∀ (i : Nat) (w : W), Γ[i]? = some (some w) → ∃ v, σ[i]? = some (some v) ∧ Rv K G α v w
theorem Sl.mono {Γ : Gm} {σ : L2.St} (e : Ex G G') (p : Pre α α') (h : Sl K G α Γ σ) : Sl K G' α' Γ σ := ⟨h.len, fun i w q => by
  obtain ⟨v, h1, h2⟩ := h.at_ i w q
  exact ⟨v, h1, h2.mono e p⟩⟩
theorem Sl.set {Γ : Gm} {σ : L2.St} {v : V} {w : W} (h : Sl K G α Γ σ) (r : Rv K G α v w) (i : Nat) : Sl K G α (Γ.set i (some w)) (σ.set i (some v)) := ⟨by rw [List.length_set, List.length_set, h.len], fun j x q => by
  by_cases e : i = j
  · subst e
    by_cases hl : i < Γ.length
    · rw [List.getElem?_set_self hl] at q
      cases q
      refine ⟨v, ?_, r⟩
      rw [List.getElem?_set_self (by rw [← h.len]; exact hl)]
    · rw [List.set_eq_of_length_le (by omega)] at q
      have := (List.getElem?_eq_some_iff.mp q).1
      omega
  · rw [List.getElem?_set_ne e] at q
    obtain ⟨u, h1, h2⟩ := h.at_ j x q
    exact ⟨u, by rw [List.getElem?_set_ne e]; exact h1, h2⟩⟩
theorem Sl.forget {Γ : Gm} {σ : L2.St} (h : Sl K G α Γ σ) (i : Nat) (o : Option V) : Sl K G α (Γ.set i none) (σ.set i o) := ⟨by rw [List.length_set, List.length_set, h.len], fun j x q => by
  by_cases e : i = j
  · subst e
    by_cases hl : i < Γ.length
    · rw [List.getElem?_set_self hl] at q
      cases q
    · rw [List.set_eq_of_length_le (by omega)] at q
      have := (List.getElem?_eq_some_iff.mp q).1
      omega
  · rw [List.getElem?_set_ne e] at q
    obtain ⟨u, h1, h2⟩ := h.at_ j x q
    exact ⟨u, by rw [List.getElem?_set_ne e]; exact h1, h2⟩⟩
variable {mg : Str → Option Value} {O O' : Oh} {H H' : Hp}
theorem COk.mono {a : Addr} {c : Cell} (e : Ex G G') (p : Pre α α') (hn : G a = none → G' a = none) (hd : ∀ b, H b = some (.own a) → G b = none → b ∉ α.as → G' b = none ∧ b ∉ α'.as ∧ H' b = some (.own a)) (hH : ∀ o, H a = some o → H' a = some o)
    (h : COk K mg G α H a c) : COk K mg G' α' H' a c := by
  cases c with
  | lst xs =>
    obtain ⟨h0, vs, h1, h2⟩ := h
    exact ⟨hn h0, vs, hH _ h1, h2.mono e p⟩
  | dic kvs =>
    obtain ⟨h0, vs, h1, h2⟩ := h
    exact ⟨hn h0, vs, hH _ h1, h2.mono e p⟩
  | dct kvs =>
    obtain ⟨h0, vs, h1, h2⟩ := h
    exact ⟨hn h0, vs, hH _ h1, h2.mono e p⟩
  | ldic od es kvs =>
    obtain ⟨h0, h1, h2⟩ := h
    exact ⟨hn h0, hH _ h1, h2.mono e p⟩
  | ldct od es kvs =>
    obtain ⟨h0, h1, h2⟩ := h
    exact ⟨hn h0, hH _ h1, h2.mono e p⟩
  | ins C fs =>
    obtain ⟨h0, Ca, dx, es, h1, h2, h3, h4, h5, h6⟩ := h
    obtain ⟨q1, q2, q3⟩ := hd dx h3 h4 h5
    exact ⟨hn h0, Ca, dx, es, h1, hH _ h2, q3, q1, q2, h6.mono e p⟩
  | gone => trivial
/-- a new thing that never changes -/
theorem Rel.lay {p : Addr} {o : HO} (R : Rel K mg G α O H) (hp : H p = none) : Rel K mg (upd G p o) α O (upd H p o) := by
  have gp : G p = none := R.ex.free hp
  refine ⟨fun a u e => ?_, R.len, R.nd, fun a ha => ?_, fun k a c h1 h2 => ?_, fun q hq => ?_⟩
  · by_cases z : a = p
    · subst z
      rw [upd_same] at e ⊢
      exact e
    · rw [upd_ne z] at e ⊢
      exact R.ex a u e
  · obtain ⟨u, e⟩ := R.liv a ha
    exact ⟨u, by rw [upd_ne (ne_of_none e hp)]; exact e⟩
  · obtain ⟨u, e⟩ := R.liv a (List.mem_of_getElem? h1)
    have ne : a ≠ p := ne_of_none e hp
    refine (R.at_ k a c h1 h2).mono (Ex.new gp) (Pre.refl _) (fun z => by rw [upd_ne ne]; exact z) (fun b hb z1 z2 => ?_) fun u z => by rw [upd_ne ne]; exact z
    have nb : b ≠ p := ne_of_none hb hp
    exact ⟨by rw [upd_ne nb]; exact z1, z2, by rw [upd_ne nb]; exact hb⟩
  · obtain ⟨q1, q2, q3, q4⟩ := R.hd q hq
    have nq : q.1 ≠ p := ne_of_none q1 hp
    exact ⟨by rw [upd_ne nq]; exact q1, by rw [upd_ne nq]; exact q2, q3, q4⟩
/-- a new cell -/
theorem Rel.cell {p : Addr} {o : HO} {c : Cell} (R : Rel K mg G α O H) (hp : H p = none) (hno : ∀ b, o ≠ .own b)
    (hc : COk K mg G (α.push p) (upd H p o) p c) : Rel K mg G (α.push p) (O ++ [c]) (upd H p o) := by
  have gp : G p = none := R.ex.free hp
  have np : p ∉ α.as := fun z => by
    obtain ⟨u, e⟩ := R.liv p z
    rw [hp] at e
    cases e
  refine ⟨fun a u e => ?_, ?_, ?_, fun a ha => ?_, fun k a c' h1 h2 => ?_, fun q hq => ?_⟩
  · rw [upd_ne (ne_of_none e gp)]
    exact R.ex a u e
  · show (α.as ++ [p]).length = _
    rw [List.length_append, List.length_append, R.len]
    rfl
  · show (α.as ++ [p]).Nodup
    rw [List.nodup_append]
    refine ⟨R.nd, by simp, fun a ha b hb z => ?_⟩
    have : b = p := by simpa using hb
    subst this
    subst z
    exact np ha
  · rcases List.mem_append.mp ha with z | z
    · obtain ⟨u, e⟩ := R.liv a z
      exact ⟨u, by rw [upd_ne (ne_of_none e hp)]; exact e⟩
    · have : a = p := by simpa using z
      subst this
      exact ⟨o, upd_same⟩
  · have h1 : (α.as ++ [p])[k]? = some a := h1
    by_cases hk : k < α.as.length
    · rw [List.getElem?_append_left hk] at h1
      rw [List.getElem?_append_left (by rw [← R.len]; exact hk)] at h2
      obtain ⟨u, e⟩ := R.liv a (List.mem_of_getElem? h1)
      have ne : a ≠ p := ne_of_none e hp
      refine (R.at_ k a c' h1 h2).mono (Ex.refl _) (Pre.push) id (fun b hb z1 z2 => ?_) fun u z => by rw [upd_ne ne]; exact z
      have nb : b ≠ p := ne_of_none hb hp
      refine ⟨z1, fun z => ?_, by rw [upd_ne nb]; exact hb⟩
      rcases List.mem_append.mp z with z | z
      · exact z2 z
      · exact nb (by simpa using z)
    · have hk2 : k = α.as.length := by
        have := (List.getElem?_eq_some_iff.mp h1).1
        rw [List.length_append] at this
        simp at this
        omega
      subst hk2
      rw [List.getElem?_append_right (Nat.le_refl _), Nat.sub_self] at h1
      rw [List.getElem?_append_right (by rw [R.len]; exact Nat.le_refl _), R.len, Nat.sub_self] at h2
      cases h1
      cases h2
      exact hc
  · obtain ⟨q1, q2, q3, q4⟩ := R.hd q hq
    have nq : q.1 ≠ p := ne_of_none q1 hp
    refine ⟨by rw [upd_ne nq]; exact q1, q2, fun z => ?_, q4⟩
    rcases List.mem_append.mp z with z | z
    · exact q3 z
    · exact nq (by simpa using z)
theorem nodup_ne {α : List Addr} (nd : α.Nodup) {i j : Nat} {a b : Addr} (h1 : α[i]? = some a) (h2 : α[j]? = some b) (h : i ≠ j) : a ≠ b := fun e => by
  subst e
  obtain ⟨l1, e1⟩ := List.getElem?_eq_some_iff.mp h1
  obtain ⟨l2, e2⟩ := List.getElem?_eq_some_iff.mp h2
  exact h ((List.getElem_inj nd).mp (e1.trans e2.symm))
/-- a cell is written (not an instance's) -/
theorem Rel.write {k : Nat} {a : Addr} {o u : HO} {c c0 : Cell} (R : Rel K mg G α O H) (h1 : α.as[k]? = some a) (h2 : O[k]? = some c0) (h3 : H a = some u) (h4 : G a = none) (hu : ∀ b, u ≠ .own b) (hno : ∀ b, o ≠ .own b)
    (hc : COk K mg G α (upd H a o) a c) : Rel K mg G α (O.set k c) (upd H a o) := by
  refine ⟨fun b v e => ?_, by rw [List.length_set]; exact R.len, R.nd, fun b hb => ?_, fun j b c' q1 q2 => ?_, fun q hq => ?_⟩
  · rw [upd_ne (ne_of_none e h4)]
    exact R.ex b v e
  · by_cases z : b = a
    · subst z
      exact ⟨o, upd_same⟩
    · obtain ⟨v, e⟩ := R.liv b hb
      exact ⟨v, by rw [upd_ne z]; exact e⟩
  · by_cases z : k = j
    · subst z
      rw [h1] at q1
      cases q1
      rw [List.getElem?_set_self (List.getElem?_eq_some_iff.mp h2).1] at q2
      cases q2
      exact hc
    · rw [List.getElem?_set_ne z] at q2
      have ne : b ≠ a := nodup_ne R.nd q1 h1 (Ne.symm z)
      refine (R.at_ j b c' q1 q2).mono (Ex.refl _) (Pre.refl _) id (fun x hx z1 z2 => ⟨z1, z2, ?_⟩) fun v z => by rw [upd_ne ne]; exact z
      have nx : x ≠ a := fun e => by
        rw [e, h3] at hx
        exact hu b (Option.some.inj hx)
      rw [upd_ne nx]
      exact hx
  · obtain ⟨q1, q2, q3, q4⟩ := R.hd q hq
    have nq : q.1 ≠ a := fun z => q3 (z ▸ List.mem_of_getElem? h1)
    exact ⟨by rw [upd_ne nq]; exact q1, q2, q3, q4⟩
/-- a list that will never change again -/
theorem Rel.freeze {k : Nat} {a : Addr} {vs : List V} {xs : List W} (R : Rel K mg G α O H) (h1 : α.as[k]? = some a) (h2 : O[k]? = some (.lst xs)) (h3 : H a = some (.lst vs)) (h4 : G a = none) : Rel K mg (upd G a (.lst vs)) α (O.set k .gone) H := by
  refine ⟨fun b v e => ?_, by rw [List.length_set]; exact R.len, R.nd, R.liv, fun j b c' q1 q2 => ?_, fun q hq => ?_⟩
  · by_cases z : b = a
    · subst z
      rw [upd_same] at e
      rw [← e]
      exact h3
    · rw [upd_ne z] at e
      exact R.ex b v e
  · by_cases z : k = j
    · subst z
      rw [List.getElem?_set_self (List.getElem?_eq_some_iff.mp h2).1] at q2
      cases q2
      trivial
    · rw [List.getElem?_set_ne z] at q2
      have ne : b ≠ a := nodup_ne R.nd q1 h1 (Ne.symm z)
      refine (R.at_ j b c' q1 q2).mono (Ex.new h4) (Pre.refl _) (fun z => by rw [upd_ne ne]; exact z) (fun x hx z1 z2 => ⟨?_, z2, hx⟩) fun v z => z
      have nx : x ≠ a := fun e => by
        rw [e, h3] at hx
        cases hx
      rw [upd_ne nx]
      exact z1
  · obtain ⟨q1, q2, q3, q4⟩ := R.hd q hq
    have nq : q.1 ≠ a := fun z => q3 (z ▸ List.mem_of_getElem? h1)
    exact ⟨q1, by rw [upd_ne nq]; exact q2, q3, q4⟩
/-- references of cells -/
def tiLt (n : Nat) : PyData ⊕ Nat → Bool
  | .inl _ => true
  | .inr j => decide (j < n)
def W.lt (n : Nat) : W → Bool
  | .c j => decide (j < n)
  | .t xs => xs.all (tiLt n)
  | _ => true
def Cell.lt (n : Nat) : Cell → Bool
  | .lst xs => xs.all (W.lt n)
  | .dic kvs => kvs.all fun p => p.2.lt n
  | .dct kvs => kvs.all fun p => p.2.lt n
  | .ldic _ _ kvs => kvs.all fun p => p.2.lt n
  | .ldct _ _ kvs => kvs.all fun p => p.2.lt n
  | .ins _ fs => fs.all fun p => p.2.lt n
  | .gone => true
def Clo (n : Nat) (O : Oh) : Bool := O.all (Cell.lt n)
theorem RiL.lt : ∀ {vs : List V} {xs : List (PyData ⊕ Nat)}, Paired (Ri K G α) vs xs → xs.all (tiLt α.as.length) = true
  | _, _, .nil => rfl
  | _, .inl x :: _, .cons h t => by rw [List.all_cons, RiL.lt t]; rfl
  | _, .inr k :: _, .cons h t => by
    obtain ⟨a, h1, _⟩ := h
    rw [List.all_cons, RiL.lt t, Bool.and_true]
    exact decide_eq_true (List.getElem?_eq_some_iff.mp h1).1
theorem Rv.lt {v : V} {w : W} (h : Rv K G α v w) : w.lt α.as.length = true := by
  cases w with
  | c k =>
    obtain ⟨a, h1, _⟩ := h
    exact decide_eq_true (List.getElem?_eq_some_iff.mp h1).1
  | t xs =>
    obtain ⟨a, vs, _, _, h⟩ := h
    exact RiL.lt h
  | _ => rfl
theorem RvL.lt : ∀ {vs : List V} {ws : List W}, RvL K G α vs ws → ws.all (W.lt α.as.length) = true
  | _, _, .nil => rfl
  | _, _, .cons h t => by rw [List.all_cons, h.lt, RvL.lt t]; rfl
theorem RK.lt {κ : Type} : ∀ {vs : List (κ × V)} {ws : List (κ × W)}, RK K G α vs ws → (ws.all fun p => p.2.lt α.as.length) = true
  | _, _, .nil => rfl
  | _, _, .cons h t => by rw [List.all_cons, h.2.lt, RK.lt t]; rfl
theorem Rel.clo (R : Rel K mg G α O H) : Clo O.length O = true := by
  unfold Clo
  rw [List.all_eq_true]
  intro c hc
  obtain ⟨k, hk, e⟩ := List.getElem_of_mem hc
  have hk' : k < α.as.length := by rw [R.len]; exact hk
  have z := R.at_ k α.as[k] c (List.getElem?_eq_getElem hk') (by rw [List.getElem?_eq_getElem hk, e])
  rw [← R.len]
  cases c with
  | lst xs => obtain ⟨_, vs, _, h⟩ := z; exact h.lt
  | dic xs => obtain ⟨_, vs, _, h⟩ := z; exact h.lt
  | dct xs => obtain ⟨_, vs, _, h⟩ := z; exact h.lt
  | ldic od es xs => obtain ⟨_, _, h⟩ := z; exact h.lt
  | ldct od es xs => obtain ⟨_, _, h⟩ := z; exact h.lt
  | ins C xs => obtain ⟨_, _, _, _, _, _, _, _, _, h⟩ := z; exact h.lt
  | gone => rfl
theorem RiL.cut {n : Nat} : ∀ {vs : List V} {xs : List (PyData ⊕ Nat)}, Paired (Ri K G α) vs xs → xs.all (tiLt n) = true → Paired (Ri K G (α.cut n)) vs xs
  | _, _, .nil, _ => .nil
  | _, .inl x :: _, .cons h t, l => by
    rw [List.all_cons, Bool.and_eq_true] at l
    exact .cons (show Ri K G (α.cut n) _ (.inl x) from h) (RiL.cut t l.2)
  | _, .inr k :: _, .cons h t, l => by
    rw [List.all_cons, Bool.and_eq_true] at l
    obtain ⟨a, h1, h2⟩ := h
    refine .cons (show Ri K G (α.cut n) _ (.inr k) from ⟨a, ?_, h2⟩) (RiL.cut t l.2)
    show (α.as.take n)[k]? = some a
    rw [List.getElem?_take, if_pos (of_decide_eq_true l.1)]
    exact h1
theorem Rv.cut {v : V} {w : W} {n : Nat} (h : Rv K G α v w) (l : w.lt n = true) : Rv K G (α.cut n) v w := by
  cases w with
  | d x => exact h
  | k ks => exact h
  | p ds => exact h
  | q ks x => exact h
  | o a d fs => exact h
  | t xs =>
    obtain ⟨a, vs, h1, h2, h3⟩ := h
    exact ⟨a, vs, h1, h2, RiL.cut h3 l⟩
  | c k =>
    obtain ⟨a, h1, h2⟩ := h
    refine ⟨a, ?_, h2⟩
    show (α.as.take n)[k]? = some a
    rw [List.getElem?_take, if_pos (of_decide_eq_true l)]
    exact h1
theorem RvL.cut {n : Nat} : ∀ {vs : List V} {ws : List W}, RvL K G α vs ws → ws.all (W.lt n) = true → RvL K G (α.cut n) vs ws
  | _, _, .nil, _ => .nil
  | _, _, .cons h t, l => by
    rw [List.all_cons, Bool.and_eq_true] at l
    exact .cons (h.cut l.1) (RvL.cut t l.2)
theorem RK.cut {κ : Type} {n : Nat} : ∀ {vs : List (κ × V)} {ws : List (κ × W)}, RK K G α vs ws → (ws.all fun p => p.2.lt n) = true → RK K G (α.cut n) vs ws
  | _, _, .nil, _ => .nil
  | _, _, .cons h t, l => by
    rw [List.all_cons, Bool.and_eq_true] at l
    exact .cons ⟨h.1, h.2.cut l.1⟩ (RK.cut t l.2)
/-- the last cells are forgotten -/
theorem Rel.cut {n : Nat} (R : Rel K mg G α O H) (l : Clo n (O.take n) = true) : Rel K mg G (α.cut n) (O.take n) H := by
  refine ⟨R.ex, by show (α.as.take n).length = _; rw [List.length_take, List.length_take, R.len], R.nd.sublist (List.take_sublist _ _), fun a ha => R.liv a (List.mem_of_mem_take ha), fun k a c h1 h2 => ?_, fun q hq => ?_⟩
  have hc : c.lt n = true := by
    unfold Clo at l
    rw [List.all_eq_true] at l
    exact l c (List.mem_of_getElem? h2)
  have h1 : (α.as.take n)[k]? = some a := h1
  rw [List.getElem?_take] at h1 h2
  have hk : k < n := by
    by_cases z : k < n
    · exact z
    · rw [if_neg z] at h1
      cases h1
  rw [if_pos hk] at h1 h2
  have z := R.at_ k a c h1 h2
  cases c with
  | lst xs => obtain ⟨h0, vs, q, h⟩ := z; exact ⟨h0, vs, q, h.cut hc⟩
  | dic xs => obtain ⟨h0, vs, q, h⟩ := z; exact ⟨h0, vs, q, h.cut hc⟩
  | dct xs => obtain ⟨h0, vs, q, h⟩ := z; exact ⟨h0, vs, q, h.cut hc⟩
  | ldic od es xs => obtain ⟨h0, q, h⟩ := z; exact ⟨h0, q, h.cut hc⟩
  | ldct od es xs => obtain ⟨h0, q, h⟩ := z; exact ⟨h0, q, h.cut hc⟩
  | ins C xs => obtain ⟨h0, Ca, dx, es, q1, q2, q3, q4, q5, h⟩ := z; exact ⟨h0, Ca, dx, es, q1, q2, q3, q4, fun m => q5 (List.mem_of_mem_take m), h.cut hc⟩
  | gone => trivial
  · obtain ⟨q1, q2, q3, q4⟩ := R.hd q hq
    exact ⟨q1, q2, fun z => q3 (List.mem_of_mem_take z), q4⟩
/-! what is hidden -/
def Al.hide (α : Al) (p : Addr) (o : HO) : Al := ⟨α.as, (p, o) :: α.hid⟩
theorem RvL.hide {p : Addr} {o : HO} {vs : List V} {ws : List W} (h : RvL K G α vs ws) : RvL K G (α.hide p o) vs ws := by
  induction h with
  | nil => exact .nil
  | cons r _ ih => exact .cons (by
      rename_i v w _ _ _
      cases w <;> exact r) ih
theorem RiL.to {β : Al} (hb : β.as = α.as) : ∀ {vs : List V} {xs : List (PyData ⊕ Nat)}, Paired (Ri K G α) vs xs → Paired (Ri K G β) vs xs
  | _, _, .nil => .nil
  | _, .inl x :: _, .cons h t => .cons (show Ri K G β _ (.inl x) from h) (RiL.to hb t)
  | _, .inr k :: _, .cons h t => .cons (show Ri K G β _ (.inr k) from by obtain ⟨a, h1, h2⟩ := h; exact ⟨a, by rw [hb]; exact h1, h2⟩) (RiL.to hb t)
theorem COk.to {a : Addr} {c : Cell} {β : Al} (hb : β.as = α.as) (hH : ∀ o, H a = some o → H' a = some o) (hd : ∀ b, H b = some (.own a) → H' b = some (.own a)) (h : COk K mg G α H a c) : COk K mg G β H' a c := by
  have rv : ∀ {v : V} {w : W}, Rv K G α v w → Rv K G β v w := fun {v w} r => by
    cases w with
    | c k => obtain ⟨a, h1, h2⟩ := r; exact ⟨a, by rw [hb]; exact h1, h2⟩
    | t xs => obtain ⟨a, vs, h1, h2, h3⟩ := r; exact ⟨a, vs, h1, h2, RiL.to hb h3⟩
    | _ => exact r
  have rl : ∀ {vs : List V} {ws : List W}, RvL K G α vs ws → RvL K G β vs ws := fun {vs ws} r => by
    induction r with
    | nil => exact .nil
    | cons r _ ih => exact .cons (rv r) ih
  have rk : ∀ {κ : Type} {vs : List (κ × V)} {ws : List (κ × W)}, RK K G α vs ws → RK K G β vs ws := fun {κ vs ws} r => by
    induction r with
    | nil => exact .nil
    | cons r _ ih => exact .cons ⟨r.1, rv r.2⟩ ih
  cases c with
  | lst xs => obtain ⟨h0, vs, q, h⟩ := h; exact ⟨h0, vs, hH _ q, rl h⟩
  | dic xs => obtain ⟨h0, vs, q, h⟩ := h; exact ⟨h0, vs, hH _ q, rk h⟩
  | dct xs => obtain ⟨h0, vs, q, h⟩ := h; exact ⟨h0, vs, hH _ q, rk h⟩
  | ldic od es xs => obtain ⟨h0, q, h⟩ := h; exact ⟨h0, hH _ q, rk h⟩
  | ldct od es xs => obtain ⟨h0, q, h⟩ := h; exact ⟨h0, hH _ q, rk h⟩
  | ins C xs => obtain ⟨h0, Ca, dx, es, q1, q2, q3, q4, q5, h⟩ := h; exact ⟨h0, Ca, dx, es, q1, hH _ q2, hd _ q3, q4, by rw [hb]; exact q5, rk h⟩
  | gone => trivial
/-- a new thing, hidden -/
theorem Rel.hidden {p : Addr} {o : HO} (R : Rel K mg G α O H) (hp : H p = none) (hno : NoOT o) : Rel K mg G (α.hide p o) O (upd H p o) := by
  have gp : G p = none := R.ex.free hp
  refine ⟨fun a u e => ?_, R.len, R.nd, fun a ha => ?_, fun k a c h1 h2 => ?_, fun q hq => ?_⟩
  · rw [upd_ne (ne_of_none e gp)]
    exact R.ex a u e
  · obtain ⟨u, e⟩ := R.liv a ha
    exact ⟨u, by rw [upd_ne (ne_of_none e hp)]; exact e⟩
  · obtain ⟨u, e⟩ := R.liv a (List.mem_of_getElem? h1)
    have ne : a ≠ p := ne_of_none e hp
    exact (R.at_ k a c h1 h2).to rfl (fun o z => by rw [upd_ne ne]; exact z) fun b z => by rw [upd_ne (ne_of_none z hp)]; exact z
  · rcases List.mem_cons.mp hq with e | hq
    · subst e
      refine ⟨upd_same, gp, fun z => ?_, hno⟩
      obtain ⟨u, e⟩ := R.liv p z
      rw [hp] at e
      cases e
    · obtain ⟨q1, q2, q3, q4⟩ := R.hd q hq
      have nq : q.1 ≠ p := ne_of_none q1 hp
      exact ⟨by rw [upd_ne nq]; exact q1, q2, q3, q4⟩
/-- the hidden thing is written -/
theorem Rel.rehide {p : Addr} {o o' : HO} {η : List (Addr × HO)} (R : Rel K mg G ⟨α.as, (p, o) :: η⟩ O H) (hno : NoOT o') (hη : ∀ q ∈ η, q.1 ≠ p) : Rel K mg G ⟨α.as, (p, o') :: η⟩ O (upd H p o') := by
  obtain ⟨p1, p2, p3, p4⟩ := R.hd (p, o) List.mem_cons_self
  have p1 : H p = some o := p1
  have p2 : G p = none := p2
  have p3 : p ∉ α.as := p3
  refine ⟨fun a u e => ?_, R.len, R.nd, fun a ha => ?_, fun k a c h1 h2 => ?_, fun q hq => ?_⟩
  · rw [upd_ne (ne_of_none e p2)]
    exact R.ex a u e
  · obtain ⟨u, e⟩ := R.liv a ha
    have ne : a ≠ p := fun z => p3 (z ▸ ha)
    exact ⟨u, by rw [upd_ne ne]; exact e⟩
  · have ne : a ≠ p := fun z => p3 (z ▸ List.mem_of_getElem? h1)
    refine (R.at_ k a c h1 h2).to rfl (fun o z => by rw [upd_ne ne]; exact z) fun b z => ?_
    have nb : b ≠ p := fun e => by
      rw [e, p1] at z
      exact p4.1 a (Option.some.inj z)
    rw [upd_ne nb]
    exact z
  · rcases List.mem_cons.mp hq with e | hq
    · subst e
      exact ⟨upd_same, p2, p3, hno⟩
    · obtain ⟨q1, q2, q3, q4⟩ := R.hd q (List.mem_cons_of_mem _ hq)
      exact ⟨by rw [upd_ne (hη q hq)]; exact q1, q2, q3, q4⟩
/-- the hidden thing comes to light and never changes again -/
theorem Rel.show {p : Addr} {o : HO} {η : List (Addr × HO)} (R : Rel K mg G ⟨α.as, (p, o) :: η⟩ O H) (hη : ∀ q ∈ η, q.1 ≠ p) : Rel K mg (upd G p o) ⟨α.as, η⟩ O H := by
  obtain ⟨p1, p2, p3, p4⟩ := R.hd (p, o) List.mem_cons_self
  have p1 : H p = some o := p1
  have p2 : G p = none := p2
  have p3 : p ∉ α.as := p3
  refine ⟨fun a u e => ?_, R.len, R.nd, R.liv, fun k a c h1 h2 => ?_, fun q hq => ?_⟩
  · by_cases z : a = p
    · subst z
      rw [upd_same] at e
      rw [← e]
      exact p1
    · rw [upd_ne z] at e
      exact R.ex a u e
  · have ne : a ≠ p := fun z => p3 (z ▸ List.mem_of_getElem? h1)
    have z := (R.at_ k a c h1 h2).to (β := ⟨α.as, η⟩) (H' := H) rfl (fun _ z => z) fun _ z => z
    refine z.mono (Ex.new p2) (Pre.refl _) (fun z => by rw [upd_ne ne]; exact z) (fun b hb z1 z2 => ?_) fun _ z => z
    have nb : b ≠ p := fun e => by
      rw [e, p1] at hb
      exact p4.1 a (Option.some.inj hb)
    exact ⟨by rw [upd_ne nb]; exact z1, z2, hb⟩
  · obtain ⟨q1, q2, q3, q4⟩ := R.hd q (List.mem_cons_of_mem _ hq)
    exact ⟨q1, by rw [upd_ne (hη q hq)]; exact q2, q3, q4⟩
end
end Dl
namespace Dl
open PySem PySem.Spec PyProof.Rows L2
theorem pe_imp {X : Cx} {e : Expr} {t t' : TE} (i : ∀ σ H Q, t' σ H Q → t σ H Q) (h : PE X e t) : PE X e t' := ⟨fun pins s σ H Q I q => h.run pins s σ H Q I (i _ _ _ q)⟩
theorem pt_imp {X : Cx} {e : Expr} {t t' : TT} (i : ∀ σ H Q, t' σ H Q → t σ H Q) (h : PT X e t) : PT X e t' := ⟨fun pins s σ H Q I q => h.run pins s σ H Q I (i _ _ _ q)⟩
theorem pw_imp {X : Cx} {e : Expr} {t t' : TT} (i : ∀ σ H Q, t' σ H Q → t σ H Q) (h : PW X e t) : PW X e t' := ⟨fun wh pins s σ H Q I q => h.run wh pins s σ H Q I (i _ _ _ q)⟩
theorem pa_imp {X : Cx} {e : List Expr} {t t' : TA} (i : ∀ σ H Q, t' σ H Q → t σ H Q) (h : PA X e t) : PA X e t' := ⟨fun p pins s σ H Q I q => h.run p pins s σ H Q I (i _ _ _ q)⟩
theorem ps_imp {X : Cx} {st : Stmt} {t t' : TS} (i : ∀ D σ H, t' D σ H → t D σ H) (h : PS X st t) : PS X st t' := ⟨fun pins s σ H D I q => h.run pins s σ H D I (i _ _ _ q)⟩
theorem pss_imp {X : Cx} {st : List Stmt} {t t' : TS} (i : ∀ D σ H, t' D σ H → t D σ H) (h : PSs X st t) : PSs X st t' := ⟨fun pins s σ H D I q => h.run pins s σ H D I (i _ _ _ q)⟩
section
variable (K : Fg) (mg : Str → Option Value)
def Post (G : Hp) (α : Al) (R : DK) (Q : VK) : Prop := ∀ r O', R r O' → ∀ v G' α' H', Ex G G' → Pre α α' → Rel K mg G' α' O' H' → Rv K G' α' v r → Q v H'
def PostT (G : Hp) (α : Al) (R : Bool → Oh → Prop) (Q : Bool → Hp → Prop) : Prop := ∀ b O', R b O' → ∀ G' α' H', Ex G G' → Pre α α' → Rel K mg G' α' O' H' → Q b H'
def PostA (G : Hp) (α : Al) (R : List W → Oh → Prop) (Q : List V → Hp → Prop) : Prop := ∀ r O', R r O' → ∀ v G' α' H', Ex G G' → Pre α α' → Rel K mg G' α' O' H' → RvL K G' α' v r → Q v H'
def PostS (G : Hp) (α : Al) (R : Gm → Oh → Prop) (Q : L2.St → Hp → Prop) : Prop := ∀ Γ' O', R Γ' O' → ∀ σ' G' α' H', Ex G G' → Pre α α' → Rel K mg G' α' O' H' → Sl K G' α' Γ' σ' → Q σ' H'
def ExOk (G : Hp) (ex : Exn) (cls : Value) (d : Option Addr) : Prop :=
  ∃ C, mg ex.cls = some (.ref C) ∧ cls = .ref C ∧ (ex.fs = [] → d = none) ∧ (ex.fs ≠ [] → ∃ dd vs, d = some dd ∧ G dd = some (.xd vs) ∧ Paired (fun (p : Str × V) (q : Str × PyData) => p.1 = q.1 ∧ Rp K G p.2 q.2) vs ex.fs)
def XPost (G : Hp) (α : Al) (xe : DX) (Wx : WX) : Prop := ∀ ex Γ' O', xe ex Γ' O' → ∀ cls d σ' G' α' H', Ex G G' → Pre α α' → Rel K mg G' α' O' H' → Sl K G' α' Γ' σ' → ExOk K mg G' ex cls d → Wx cls d σ' H'
def XPostF (G : Hp) (α : Al) (xe : Exn → Oh → Prop) (E : XK) : Prop := ∀ ex O', xe ex O' → ∀ cls d G' α' H', Ex G G' → Pre α α' → Rel K mg G' α' O' H' → ExOk K mg G' ex cls d → E cls d H'
structure PostD (G : Hp) (α : Al) (DD : DEnds) (D : Ends) : Prop where
  nx : PostS K mg G α DD.nx D.nx
  rt : Post K mg G α DD.rt D.rt
  bk : PostS K mg G α DD.bk D.bk
  ct : PostS K mg G α DD.ct D.ct
def liftE (Wx : WX) (w : DEx) : TE := fun σ H Q => ∃ G α Γ O R xe, Sl K G α Γ σ ∧ Rel K mg G α O H ∧ w Γ O R xe ∧ Post K mg G α R Q ∧ XPost K mg G α xe Wx
def liftT (Wx : WX) (w : DT) : TT := fun σ H Q => ∃ G α Γ O R xe, Sl K G α Γ σ ∧ Rel K mg G α O H ∧ w Γ O R xe ∧ PostT K mg G α R Q ∧ XPost K mg G α xe Wx
def liftA (Wx : WX) (w : DA) : TA := fun σ H Q => ∃ G α Γ O R xe, Sl K G α Γ σ ∧ Rel K mg G α O H ∧ w Γ O R xe ∧ PostA K mg G α R Q ∧ XPost K mg G α xe Wx
def liftS (Wx : WX) (w : DSt) : TS := fun D σ H => ∃ G α Γ O DD xe, Sl K G α Γ σ ∧ Rel K mg G α O H ∧ w DD xe Γ O ∧ PostD K mg G α DD D ∧ XPost K mg G α xe Wx
def liftF (w : DFn) : Sp := fun vs H Q E => ∃ G α ws O R xe, RvL K G α vs ws ∧ Rel K mg G α O H ∧ w ws O R xe ∧ Post K mg G α R Q ∧ XPostF K mg G α xe E
end
section
variable {K : Fg} {mg : Str → Option Value} {G G' : Hp} {α α' : Al}
theorem Post.mono {R : DK} {Q : VK} (e : Ex G G') (p : Pre α α') (h : Post K mg G α R Q) : Post K mg G' α' R Q := fun r O' q v G2 α2 H' e2 p2 => h r O' q v G2 α2 H' (e.trans e2) (p.trans p2)
theorem PostT.mono {R : Bool → Oh → Prop} {Q : Bool → Hp → Prop} (e : Ex G G') (p : Pre α α') (h : PostT K mg G α R Q) : PostT K mg G' α' R Q := fun r O' q G2 α2 H' e2 p2 => h r O' q G2 α2 H' (e.trans e2) (p.trans p2)
theorem PostA.mono {R : List W → Oh → Prop} {Q : List V → Hp → Prop} (e : Ex G G') (p : Pre α α') (h : PostA K mg G α R Q) : PostA K mg G' α' R Q := fun r O' q v G2 α2 H' e2 p2 => h r O' q v G2 α2 H' (e.trans e2) (p.trans p2)
theorem PostS.mono {R : Gm → Oh → Prop} {Q : L2.St → Hp → Prop} (e : Ex G G') (p : Pre α α') (h : PostS K mg G α R Q) : PostS K mg G' α' R Q := fun r O' q v G2 α2 H' e2 p2 => h r O' q v G2 α2 H' (e.trans e2) (p.trans p2)
theorem XPost.mono {xe : DX} {Wx : WX} (e : Ex G G') (p : Pre α α') (h : XPost K mg G α xe Wx) : XPost K mg G' α' xe Wx := fun ex Γ' O' q cls d σ' G2 α2 H' e2 p2 => h ex Γ' O' q cls d σ' G2 α2 H' (e.trans e2) (p.trans p2)
theorem XPostF.mono {xe : Exn → Oh → Prop} {E : XK} (e : Ex G G') (p : Pre α α') (h : XPostF K mg G α xe E) : XPostF K mg G' α' xe E := fun ex O' q cls d G2 α2 H' e2 p2 => h ex O' q cls d G2 α2 H' (e.trans e2) (p.trans p2)
theorem PostD.mono {DD : DEnds} {D : Ends} (e : Ex G G') (p : Pre α α') (h : PostD K mg G α DD D) : PostD K mg G' α' DD D := ⟨h.nx.mono e p, h.rt.mono e p, h.bk.mono e p, h.ct.mono e p⟩
theorem Post.here {R : DK} {Q : VK} {r : W} {O : Oh} {v : V} {H : Hp} (h : Post K mg G α R Q) (q : R r O) (R' : Rel K mg G α O H) (rv : Rv K G α v r) : Q v H := h r O q v G α H (Ex.refl _) (Pre.refl _) R' rv
theorem PostT.here {R : Bool → Oh → Prop} {Q : Bool → Hp → Prop} {b : Bool} {O : Oh} {H : Hp} (h : PostT K mg G α R Q) (q : R b O) (R' : Rel K mg G α O H) : Q b H := h b O q G α H (Ex.refl _) (Pre.refl _) R'
theorem PostS.here {R : Gm → Oh → Prop} {Q : L2.St → Hp → Prop} {Γ : Gm} {O : Oh} {σ : L2.St} {H : Hp} (h : PostS K mg G α R Q) (q : R Γ O) (R' : Rel K mg G α O H) (s : Sl K G α Γ σ) : Q σ H := h Γ O q σ G α H (Ex.refl _) (Pre.refl _) R' s
/-- a new thing that never changes is the answer -/
theorem Post.lay {R : DK} {Q : VK} {x : PyData} {O : Oh} {H : Hp} {p : Addr} {o : HO} (h : Post K mg G α R Q) (q : R (.d x) O) (R' : Rel K mg G α O H) (hp : H p = none) (rv : Rp K (upd G p o) (.ref p) x) : Q (.ref p) (upd H p o) :=
  h _ O q _ _ α _ (Ex.new (R'.ex.free hp)) (Pre.refl _) (R'.lay hp) rv
end
theorem takesN0 {X : Cx} : L2N.Takes X (fun _ _ _ _ => False) := fun _ _ x => by
  obtain ⟨_, _, _, _, _, _, _, _, _, _, _, _, _, _, _, _, z⟩ := x
  exact z.elim
/-- what holds of a place in the text -/
structure Good (X : Cx) (Wx : WX) (k : Nat) : Prop where
  tk : L2N.Takes X Wx
  ps : PassesOwn (model X.prog X.w) X.A X.env X.xe
  rm : Room k X.A
  calm : X.calm = true
  nd : X.N.Nodup
section
variable {X : Cx} {Wx : WX} {k : Nat}
def DE (X : Cx) (Wx : WX) (e : Expr) (w : DEx) : Prop := PE X e (liftE X.K X.mg Wx w)
def DTt (X : Cx) (Wx : WX) (e : Expr) (w : DT) : Prop := PT X e (liftT X.K X.mg Wx w)
def DW (X : Cx) (Wx : WX) (e : Expr) (w : DT) : Prop := PW X e (liftT X.K X.mg Wx w)
def DAs (X : Cx) (Wx : WX) (es : List Expr) (w : DA) : Prop := PA X es (liftA X.K X.mg Wx w)
def DS (X : Cx) (Wx : WX) (st : Stmt) (w : DSt) : Prop := PS X st (liftS X.K X.mg Wx w)
def DSs (X : Cx) (Wx : WX) (st : List Stmt) (w : DSt) : Prop := PSs X st (liftS X.K X.mg Wx w)
/-! #### names, constants -/
def dVar (i : Nat) : DEx := fun Γ O R _ => match Γ[i]? with
  | some (some w) => R w O
  | _ => False
theorem de_var (i : Nat) {x : Str} {pos : Pos} (hN : X.N[i]? = some x := by rfl) (hv : Vis X.env.scope x := by first | exact Or.inl rfl | exact Or.inr (Or.inl rfl) | exact Or.inr (Or.inr rfl)) (hd : (x == ("__debug__" : Str)) = false := by decide)
    (hcd : (x == ("__classdict__" : Str)) = false := by decide) : DE X Wx (.Name x pos) (dVar i) := by
  refine pe_imp (fun σ H Q ⟨G, α, Γ, O, R, xe, sl, rel, h, p, _⟩ => ?_) (pv i hN hv hd hcd)
  unfold dVar at h
  split at h
  · next w e =>
    obtain ⟨v, e', r⟩ := sl.at_ i w e
    exact ⟨v, e', p.here h rel r⟩
  · exact h.elim
def dC (x : PyData) : DEx := fun _ O R _ => R (.d x) O
theorem de_c {e : Expr} {v : V} {x : PyData} (h : PE X e (tC v)) (r : ∀ G, Rp X.K G v x) : DE X Wx e (dC x) :=
  pe_imp (fun σ H Q ⟨G, α, Γ, O, R, xe, sl, rel, h, p, _⟩ => p.here h rel (r G)) h
theorem de_int {i : Int} {j : Nat} {pos : Pos} : DE X Wx (.Constant (.int i) j pos) (dC (.int i)) := de_c pe_int fun _ => .int _
theorem de_str {x : Str} {j : Nat} {pos : Pos} (h : PyData.strOk x = true := by decide +kernel) : DE X Wx (.Constant (.str x) j pos) (dC (.str x)) := de_c pe_str fun _ => .str _ h
theorem de_bl {b : Bool} {j : Nat} {pos : Pos} : DE X Wx (.Constant (.bool b) j pos) (dC (.bool b)) := de_c pe_bl fun _ => .bl _
theorem de_non {j : Nat} {pos : Pos} : DE X Wx (.Constant .none j pos) (dC .none) := de_c pe_non fun _ => .non
/-! #### two expressions, one after the other -/
abbrev D2 := W → W → Oh → DK → Prop
def OpS (K : Fg) (mg : Str → Option Value) (f : D2) (r : R2) : Prop := ∀ G α O H x y u v R Q, Rel K mg G α O H → Rv K G α u x → Rv K G α v y → f x y O R → Post K mg G α R Q → r u v H Q
def dOp (f : D2) (wa wb : DEx) : DEx := fun Γ O R xe => wa Γ O (fun x O1 => wb Γ O1 (fun y O2 => f x y O2 R) xe) xe
theorem lift_op {K : Fg} {mg : Str → Option Value} {f : D2} {r : R2} {wa wb : DEx} (hs : OpS K mg f r) {σ : L2.St} {H : Hp} {Q : VK} (h : liftE K mg Wx (dOp f wa wb) σ H Q) : tOp r (liftE K mg Wx wa) (liftE K mg Wx wb) σ H Q := by
  obtain ⟨G, α, Γ, O, R, xe, sl, rel, h, p, xp⟩ := h
  refine ⟨G, α, Γ, O, _, xe, sl, rel, h, fun x O1 h1 u G1 α1 H1 e1 p1 rel1 r1 => ?_, xp⟩
  refine ⟨G1, α1, Γ, O1, _, xe, sl.mono e1 p1, rel1, h1, fun y O2 h2 v G2 α2 H2 e2 p2 rel2 r2 => ?_, xp.mono e1 p1⟩
  exact hs G2 α2 O2 H2 x y u v R Q rel2 (r1.mono e2 p2) r2 h2 (p.mono (e1.trans e2) (p1.trans p2))
variable {a b c : Expr} {wa wb wc : DEx} {pos p2 : Pos}
theorem de_op {op : Operator} {f : D2} {r : R2} (ho : OpR X (binaryOp op) r) (hs : OpS X.K X.mg f r) (ha : DE X Wx a wa) (hb : DE X Wx b wb) : DE X Wx (.BinOp a op b pos) (dOp f wa wb) := pe_imp (fun _ _ _ h => lift_op hs h) (pe_op ho ha hb)
def dB (w : DEx) : DT := fun Γ O R xe => w Γ O (fun r O' => match r with
  | .d (.bool b) => R b O'
  | _ => False) xe
theorem lift_B {K : Fg} {mg : Str → Option Value} {w : DEx} {σ : L2.St} {H : Hp} {Q : Bool → Hp → Prop} (h : liftT K mg Wx (dB w) σ H Q) : liftE K mg Wx w σ H (fun x H1 => ∃ b, x = .bl b ∧ Q b H1) := by
  obtain ⟨G, α, Γ, O, R, xe, sl, rel, h, p, xp⟩ := h
  refine ⟨G, α, Γ, O, _, xe, sl, rel, h, fun x O1 h1 u G1 α1 H1 e1 p1 rel1 r1 => ?_, xp⟩
  try dsimp only at h1
  try dsimp only
  split at h1
  · next b =>
    cases r1
    exact ⟨b, rfl, p _ _ h1 _ _ _ e1 p1 rel1⟩
  · exact h1.elim
theorem dt_cmp {op : CmpOp} {f : D2} {r : R2} (ho : OpR X (compareOp op) r) (hs : OpS X.K X.mg f r) (ha : DE X Wx a wa) (hb : DE X Wx b wb) (hm : behindInMarks op b = false := by first | exact nomark _ | rfl) : DTt X Wx (.Compare a [op] [b] pos) (dB (dOp f wa wb)) := by
  refine pt_imp (fun σ H Q h => ?_) (pt_cmpR ho ha hb hm)
  exact lift_op hs (lift_B h)
theorem dt_val (h : DE X Wx a wa) (he : ∀ whole, isTrue a X.env whole = (do let v ← whole; standAt a.pos; holding [v] (truthy v)) := by intro _; rfl) : DTt X Wx a (dB wa) :=
  pt_imp (fun σ H Q h => lift_B h) (pt_val h he)
/-! #### tests -/
variable {tA tB tC' : DT} {rest : List Expr}
def dAnd (t u : DT) : DT := fun Γ O R xe => t Γ O (fun b O1 => if b = true then u Γ O1 R xe else R false O1) xe
def dOr (t u : DT) : DT := fun Γ O R xe => t Γ O (fun b O1 => if b = true then R true O1 else u Γ O1 R xe) xe
def dNot (t : DT) : DT := fun Γ O R xe => t Γ O (fun b O1 => R (!b) O1) xe
theorem dw_and1 (h : DTt X Wx a tA) : DW X Wx (.BoolOp .And [a] pos) tA := pw_and1 h
theorem dw_or1 (h : DTt X Wx a tA) : DW X Wx (.BoolOp .Or [a] pos) tA := pw_or1 h
theorem dw_and (h : DTt X Wx a tA) (hb : DW X Wx (.BoolOp .And (b :: rest) pos) tB) : DW X Wx (.BoolOp .And (a :: b :: rest) pos) (dAnd tA tB) := by
  refine pw_imp (fun σ H Q ⟨G, α, Γ, O, R, xe, sl, rel, h, p, xp⟩ => ?_) (pw_and h hb)
  refine ⟨G, α, Γ, O, _, xe, sl, rel, h, fun x O1 h1 G1 α1 H1 e1 p1 rel1 => ?_, xp⟩
  try dsimp only at h1
  try dsimp only
  split at h1
  · next c =>
    rw [if_pos c]
    exact ⟨G1, α1, Γ, O1, R, xe, sl.mono e1 p1, rel1, h1, p.mono e1 p1, xp.mono e1 p1⟩
  · next c =>
    rw [if_neg c]
    exact p _ _ h1 _ _ _ e1 p1 rel1
theorem dw_or (h : DTt X Wx a tA) (hb : DW X Wx (.BoolOp .Or (b :: rest) pos) tB) : DW X Wx (.BoolOp .Or (a :: b :: rest) pos) (dOr tA tB) := by
  refine pw_imp (fun σ H Q ⟨G, α, Γ, O, R, xe, sl, rel, h, p, xp⟩ => ?_) (pw_or h hb)
  refine ⟨G, α, Γ, O, _, xe, sl, rel, h, fun x O1 h1 G1 α1 H1 e1 p1 rel1 => ?_, xp⟩
  try dsimp only at h1
  try dsimp only
  split at h1
  · next c =>
    rw [if_pos c]
    exact p _ _ h1 _ _ _ e1 p1 rel1
  · next c =>
    rw [if_neg c]
    exact ⟨G1, α1, Γ, O1, R, xe, sl.mono e1 p1, rel1, h1, p.mono e1 p1, xp.mono e1 p1⟩
theorem DW.t (h : DW X Wx a tA) : DTt X Wx a tA := PW.pt h
theorem dt_not (h : DTt X Wx a tA) : DTt X Wx (.UnaryOp .Not a pos) (dNot tA) := by
  refine pt_imp (fun σ H Q ⟨G, α, Γ, O, R, xe, sl, rel, h, p, xp⟩ => ?_) (pt_not h)
  exact ⟨G, α, Γ, O, _, xe, sl, rel, h, fun x O1 h1 G1 α1 H1 e1 p1 rel1 => p _ _ h1 _ _ _ e1 p1 rel1, xp⟩
/-! .. as values -/
def dAndV (wa wb : DEx) : DEx := fun Γ O R xe => wa Γ O (fun r O1 => match r with
  | .d (.bool b) => if b = true then wb Γ O1 R xe else R (.d (.bool false)) O1
  | _ => False) xe
def dOrV (wa wb : DEx) : DEx := fun Γ O R xe => wa Γ O (fun r O1 => match r with
  | .d (.bool b) => if b = true then R (.d (.bool true)) O1 else wb Γ O1 R xe
  | _ => False) xe
def dNotV (wa : DEx) : DEx := fun Γ O R xe => wa Γ O (fun r O1 => match r with
  | .d (.bool b) => R (.d (.bool (!b))) O1
  | _ => False) xe
def dIfE (t : DT) (wa wb : DEx) : DEx := fun Γ O R xe => t Γ O (fun b O1 => if b = true then wa Γ O1 R xe else wb Γ O1 R xe) xe
/-! #### arguments, displays -/
variable {es : List Expr} {ws : DA}
def dNil : DA := fun _ O R _ => R [] O
def dCons (wa : DEx) (ws : DA) : DA := fun Γ O R xe => wa Γ O (fun x O1 => ws Γ O1 (fun xs O2 => R (x :: xs) O2) xe) xe
theorem da_nil : DAs X Wx [] dNil := pa_imp (fun σ H Q ⟨G, α, Γ, O, R, xe, sl, rel, h, p, xp⟩ => p _ _ h _ _ _ _ (Ex.refl _) (Pre.refl _) rel .nil) pa_nil
theorem da_cons (ha : DE X Wx a wa) (hr : DAs X Wx es ws) (hs : starEach (a :: es) X.env = (false, eval a X.env) :: starEach es X.env := by rfl) : DAs X Wx (a :: es) (dCons wa ws) := by
  refine pa_imp (fun σ H Q ⟨G, α, Γ, O, R, xe, sl, rel, h, p, xp⟩ => ?_) (pa_cons ha hr hs)
  refine ⟨G, α, Γ, O, _, xe, sl, rel, h, fun x O1 h1 u G1 α1 H1 e1 p1 rel1 r1 => ?_, xp⟩
  refine ⟨G1, α1, Γ, O1, _, xe, sl.mono e1 p1, rel1, h1, fun y O2 h2 v G2 α2 H2 e2 p2 rel2 r2 => ?_, xp.mono e1 p1⟩
  exact p _ _ h2 _ _ _ _ (e1.trans e2) (p1.trans p2) rel2 (.cons (r1.mono e2 p2) r2)
/-- the data of values that never change -/
def datas : List W → Option (List PyData)
  | [] => some []
  | .d x :: r => match datas r with
    | some xs => some (x :: xs)
    | none => none
  | _ :: _ => none
theorem datas_map (ds : List PyData) : datas (ds.map W.d) = some ds := by
  induction ds with
  | nil => rfl
  | cons d ds ih => show (match datas (ds.map W.d) with | some xs => some (d :: xs) | none => none) = _; rw [ih]
theorem datas_eq : ∀ {ws : List W} {ds : List PyData}, datas ws = some ds → ws = ds.map W.d
  | [], ds, h => by cases h; rfl
  | .d x :: r, ds, h => by
    unfold datas at h
    split at h
    · next xs e => cases h; rw [datas_eq e]; rfl
    · cases h
  | .c _ :: _, _, h => by cases h
  | .k _ :: _, _, h => by cases h
  | .p _ :: _, _, h => by cases h
  | .q _ _ :: _, _, h => by cases h
  | .o _ _ _ :: _, _, h => by cases h
  | .t _ :: _, _, h => by cases h
def dTup (w : DA) : DEx := fun Γ O R xe => w Γ O (fun ws O1 => match datas ws with
  | some ds => ds.length ≤ 1000000 ∧ R (.d (.tuple ds)) O1
  | none => False) xe
def dLst (w : DA) : DEx := fun Γ O R xe => w Γ O (fun ws O1 => match datas ws with
  | some ds => ds.length ≤ 1000000 ∧ R (.d (.list ds)) O1
  | none => False) xe
/-- a list that will change -/
def dLstC (w : DA) : DEx := fun Γ O R xe => w Γ O (fun ws O1 => ws.length ≤ 1000000 ∧ R (.c O1.length) (O1 ++ [.lst ws])) xe
theorem szl {n : Nat} (h : n ≤ 1000000) : n ≤ sizeLine := Nat.le_trans h (by decide)
theorem szlt {n : Nat} (h : n < 1000000) : n < sizeLine := Nat.lt_of_lt_of_le h (by decide)
/-- a tuple of written items, known to have no dict of its own -/
def tTupF (t : TA) : TE := fun σ H Q => t σ H fun xs H1 => xs.length ≤ sizeLine ∧ ∀ p ob, H1 p = none → ob.dict = none → Q (.ref p) (upd H1 p (.frz ob (.tup xs)))
theorem pe_tupF {es : List Expr} {t : TA} {x1} (h : PA X es t) : PE X (.Tuple es x1 pos) (tTupF t) := by
  refine ⟨fun pins s σ H Q I hq => ?_⟩
  refine wpAny_Tuple_spliced (thn (h.run pos pins s σ H _ I hq) fun us s1 ⟨xs, H1, I1, r, z, q⟩ => ⟨by rw [← r.length]; exact z, ?_⟩)
  have hf : H1 s1.heap.objs.size = none := I1.hok.fresh (Nat.le_refl _)
  refine ⟨.ref s1.heap.objs.size, upd H1 s1.heap.objs.size (.frz { cls := .type "tuple", data := .seq us.toArray } (.tup xs)), I1.laid (t' := s1.toks) (fun b u e => Heap.get?_push_of_some _ e) (Nat.le_refl _) ?_, rfl, q _ _ hf rfl⟩
  exact ⟨Heap.get?_push_size _ rfl, z, us, r, ⟨_, Heap.get?_push_size _ rfl, rfl, _, rfl⟩⟩
theorem Post.layF {K : Fg} {mg : Str → Option Value} {G : Hp} {α : Al} {R : DK} {Q : VK} {ds : List PyData} {vs : List V} {O : Oh} {H : Hp} {p : Addr} {ob : Obj} (h : Post K mg G α R Q) (q : R (.d (.tuple ds)) O) (R' : Rel K mg G α O H) (hp : H p = none) (hd : ob.dict = none) (rv : RpL K G vs ds) : Q (.ref p) (upd H p (.frz ob (.tup vs))) := by
  have gp := R'.ex.free hp
  exact h.lay q R' hp (.tup (.inl (.inr ⟨ob, upd_same⟩)) (.inl ⟨ob, _, upd_same, hd⟩) (rv.mono (Ex.new gp)))
theorem de_tup {x1} (h : DAs X Wx es ws) : DE X Wx (.Tuple es x1 pos) (dTup ws) := by
  refine pe_imp (fun σ H Q ⟨G, α, Γ, O, R, xe, sl, rel, h, p, xp⟩ => ?_) (pe_tupF h)
  refine ⟨G, α, Γ, O, _, xe, sl, rel, h, fun y O1 h1 vs G1 α1 H1 e1 p1 rel1 r1 => ?_, xp⟩
  try dsimp only at h1
  try dsimp only
  split at h1
  · next ds e =>
    rw [datas_eq e] at r1
    have r2 := r1.toD
    exact ⟨by rw [r2.length]; exact szl h1.1, fun q ob hq hd => (p.mono e1 p1).layF h1.2 rel1 hq hd r2⟩
  · exact h1.elim
theorem de_lst (h : DAs X Wx es ws) : DE X Wx (.List es pos) (dLst ws) := by
  refine pe_imp (fun σ H Q ⟨G, α, Γ, O, R, xe, sl, rel, h, p, xp⟩ => ?_) (pe_lst h)
  refine ⟨G, α, Γ, O, _, xe, sl, rel, h, fun y O1 h1 vs G1 α1 H1 e1 p1 rel1 r1 => ?_, xp⟩
  try dsimp only at h1
  try dsimp only
  split at h1
  · next ds e =>
    rw [datas_eq e] at r1
    have r2 := r1.toD
    refine ⟨by rw [r2.length]; exact szl h1.1, fun q hq => ?_⟩
    have rel2 := rel1.lay (o := .lst vs) hq
    have e2 : Ex G1 (upd G1 q (.lst vs)) := Ex.new (rel1.ex.free hq)
    exact p _ _ h1.2 _ _ _ _ (e1.trans e2) p1 rel2 (.lst upd_same (r2.mono e2))
  · exact h1.elim
theorem pre_len {α : Al} {p : Addr} {O : Oh} (h : α.as.length = O.length) : (α.push p).as[O.length]? = some p := by
  show (α.as ++ [p])[O.length]? = some p
  rw [List.getElem?_append_right (by omega), h, Nat.sub_self]
  rfl
theorem de_lstC (h : DAs X Wx es ws) : DE X Wx (.List es pos) (dLstC ws) := by
  refine pe_imp (fun σ H Q ⟨G, α, Γ, O, R, xe, sl, rel, h, p, xp⟩ => ?_) (pe_lst h)
  refine ⟨G, α, Γ, O, _, xe, sl, rel, h, fun y O1 h1 vs G1 α1 H1 e1 p1 rel1 r1 => ?_, xp⟩
  refine ⟨by rw [r1.len]; exact szl h1.1, fun q hq => ?_⟩
  have rel2 := rel1.cell (o := .lst vs) (c := .lst y) hq (fun b z => by cases z) ⟨rel1.ex.free hq, vs, upd_same, r1.mono (Ex.refl _) (Pre.push)⟩
  exact p _ _ h1.2 _ _ _ _ e1 (p1.trans (Pre.push)) rel2 ⟨q, pre_len rel1.len, rfl⟩
end
end Dl
namespace Dl
open PySem PySem.Spec PyProof.Rows L2
section
variable {X : Cx} {Wx : WX} {k : Nat} {a b c e : Expr} {wa wb wc we : DEx} {pos p2 : Pos} {t u : DSt} {st : Stmt} {rest : List Stmt}
/-! #### statements -/
def dNext : DSt := fun D _ Γ O => D.nx Γ O
def dSeq (t u : DSt) : DSt := fun D xe Γ O => t { D with nx := u D xe } xe Γ O
def dBreak : DSt := fun D _ Γ O => D.bk Γ O
def dCont : DSt := fun D _ Γ O => D.ct Γ O
def dDrop (w : DEx) : DSt := fun D xe Γ O => w Γ O (fun _ O1 => D.nx Γ O1) xe
def dRet (w : DEx) : DSt := fun D xe Γ O => w Γ O D.rt xe
def dRetN : DSt := fun D _ _ O => D.rt (.d .none) O
def dIf (c : DT) (t u : DSt) : DSt := fun D xe Γ O => c Γ O (fun b O1 => if b = true then t D xe Γ O1 else u D xe Γ O1) xe
theorem dss_nil : DSs X Wx [] dNext := pss_imp (fun D σ H ⟨G, α, Γ, O, DD, xe, sl, rel, h, p, xp⟩ => p.nx.here h rel sl) pss_nil
theorem dss_cons (h1 : DS X Wx st t) (h2 : DSs X Wx rest u) : DSs X Wx (st :: rest) (dSeq t u) := by
  refine pss_imp (fun D σ H ⟨G, α, Γ, O, DD, xe, sl, rel, h, p, xp⟩ => ?_) (pss_cons h1 h2)
  refine ⟨G, α, Γ, O, _, xe, sl, rel, h, ⟨fun Γ1 O1 h1 σ1 G1 α1 H1 e1 p1 rel1 sl1 => ?_, p.rt, p.bk, p.ct⟩, xp⟩
  exact ⟨G1, α1, Γ1, O1, DD, xe, sl1, rel1, h1, p.mono e1 p1, xp.mono e1 p1⟩
theorem dss_one (h1 : DS X Wx st t) : DSs X Wx [st] t := pss_one h1
theorem ds_expr (he : DE X Wx e we) (hs : swapsWith e none pos.line X.env = pure false := by rfl) : DS X Wx (.Expr e pos) (dDrop we) := by
  refine ps_imp (fun D σ H ⟨G, α, Γ, O, DD, xe, sl, rel, h, p, xp⟩ => ?_) (ps_expr he hs)
  exact ⟨G, α, Γ, O, _, xe, sl, rel, h, fun x O1 h1 v G1 α1 H1 e1 p1 rel1 r1 => p.nx _ _ h1 _ _ _ _ e1 p1 rel1 (sl.mono e1 p1), xp⟩
theorem ds_ret (he : DE X Wx e we) : DS X Wx (.Return (some e) pos) (dRet we) := by
  refine ps_imp (fun D σ H ⟨G, α, Γ, O, DD, xe, sl, rel, h, p, xp⟩ => ?_) (ps_ret he)
  exact ⟨G, α, Γ, O, _, xe, sl, rel, h, p.rt, xp⟩
theorem ds_if {tc : DT} {sa sb : List Stmt} (hc : DTt X Wx c tc) (ha : DSs X Wx sa t) (hb : DSs X Wx sb u) : DS X Wx (.If c sa sb pos) (dIf tc t u) := by
  refine ps_imp (fun D σ H ⟨G, α, Γ, O, DD, xe, sl, rel, h, p, xp⟩ => ?_) (ps_if hc ha hb)
  refine ⟨G, α, Γ, O, _, xe, sl, rel, h, fun x O1 h1 G1 α1 H1 e1 p1 rel1 => ?_, xp⟩
  dsimp only at h1 ⊢
  split at h1
  · next c =>
    rw [if_pos c]
    exact ⟨G1, α1, Γ, O1, DD, xe, sl.mono e1 p1, rel1, h1, p.mono e1 p1, xp.mono e1 p1⟩
  · next c =>
    rw [if_neg c]
    exact ⟨G1, α1, Γ, O1, DD, xe, sl.mono e1 p1, rel1, h1, p.mono e1 p1, xp.mono e1 p1⟩
/-! #### targets: names and tuples of such -/
inductive Tg where
  | nm (i : Nat)
  | tup (ts : List Tg)
mutual
def Tg.g (K : Fg) : Tg → TG
  | .nm i => gName i
  | .tup ts => gTup K (Tg.len ts) (Tg.gs K ts)
def Tg.gs (K : Fg) : List Tg → TGs
  | [] => gNil
  | t :: ts => gCons (Tg.g K t) (Tg.gs K ts)
def Tg.len : List Tg → Nat
  | [] => 0
  | _ :: ts => Tg.len ts + 1
end
mutual
/-- what a store makes of the slots -/
def Tg.put : Tg → W → Gm → (Gm → Prop) → Prop
  | .nm i, w, Γ, R => R (Γ.set i (some w))
  | .tup ts, w, Γ, R => match w with
    | .d (.tuple ds) => Tg.puts ts (ds.map W.d) Γ R
    | .p ds => Tg.puts ts (ds.map W.d) Γ R
    | .k ks => Tg.puts ts (ks.map fun x => W.d (keyD x)) Γ R
    | .q ks x => Tg.puts ts [.k ks, .d x] Γ R
    | .t xs => Tg.puts ts (xs.map tiW) Γ R
    | _ => False
def Tg.puts : List Tg → List W → Gm → (Gm → Prop) → Prop
  | [], ds, Γ, R => match ds with
    | [] => R Γ
    | _ :: _ => False
  | t :: ts, ds, Γ, R => match ds with
    | [] => False
    | d :: r => Tg.put t d Γ fun Γ1 => Tg.puts ts r Γ1 R
end
mutual
/-- the slots it stores to lie among these -/
def Tg.sub (own : List Nat) : Tg → Bool
  | .nm i => decide (i ∈ own)
  | .tup ts => Tg.subs own ts
def Tg.subs (own : List Nat) : List Tg → Bool
  | [] => true
  | t :: ts => t.sub own && Tg.subs own ts
end
theorem wipe_set {i : Nat} {v : Option V} : ∀ {own : List Nat} {σ : L2.St}, i ∈ own → wipe (σ.set i v) own = wipe σ own
  | j :: r, σ, h => by
    show (wipe (σ.set i v) r).set j none = (wipe σ r).set j none
    by_cases z : i ∈ r
    · rw [wipe_set z]
    · have e : j = i := by
        rcases List.mem_cons.mp h with h | h
        · exact h.symm
        · exact absurd h z
      subst e
      have com : ∀ {q : List Nat}, j ∉ q → wipe (σ.set j v) q = (wipe σ q).set j v := by
        intro q
        induction q with
        | nil => intro _; rfl
        | cons m q ih =>
          intro hm
          have h1 : j ≠ m := fun e => hm (e ▸ List.mem_cons_self)
          have h2 : j ∉ q := fun e => hm (List.mem_cons_of_mem _ e)
          show (wipe (σ.set j v) q).set m none = ((wipe σ q).set m none).set j v
          rw [ih h2, List.set_comm _ _ h1]
      rw [com z, List.set_set]
section
variable {K : Fg} {mg : Str → Option Value} {G : Hp} {α : Al} {H : Hp}
mutual
theorem Tg.put_ok : ∀ (t : Tg) {w : W} {v : V} {Γ : Gm} {σ : L2.St} {R : Gm → Prop} {O : Oh} {Q : L2.St → Hp → Prop}, Rel K mg G α O H → Sl K G α Γ σ → Rv K G α v w → t.put w Γ R →
    (∀ Γ' σ', R Γ' → Sl K G α Γ' σ' → (∀ own, t.sub own = true → wipe σ' own = wipe σ own) → Q σ' H) → t.g K v σ H Q
  | .nm i, w, v, Γ, σ, R, O, Q, rel, sl, rv, h, q => by
    refine q _ _ h (sl.set rv i) fun own ho => wipe_set (of_decide_eq_true ho)
  | .tup ts, w, v, Γ, σ, R, O, Q, rel, sl, rv, h, q => by
    match w, h with
    | .d (.tuple ds), h =>
      cases rv with
      | tup hs td ha =>
        rename_i a xs
        have r := RvL.ofD (α := α) ha
        exact ⟨a, xs, rfl, rel.ex.sqT hs, by rw [r.len]; exact Tg.puts_len ts h, Tg.puts_ok ts rel sl r h q⟩
    | .p ds, h =>
      obtain ⟨a, xs, rfl, hs, ha⟩ := rv
      have r := RvL.ofD (α := α) ha
      exact ⟨a, xs, rfl, rel.ex.sqT hs, by rw [r.len]; exact Tg.puts_len ts h, Tg.puts_ok ts rel sl r h q⟩
    | .k ks, h =>
      obtain ⟨ok, a, rfl, hs⟩ := rv
      have r : RvL K G α (ks.map kV) (ks.map fun x => W.d (keyD x)) := by
        have z := RvL.ofD (α := α) (RpL.keys (K := K) (G := G) ok)
        rwa [List.map_map] at z
      exact ⟨a, _, rfl, rel.ex.sqT (SqT.of hs), by rw [r.len]; exact Tg.puts_len ts h, Tg.puts_ok ts rel sl r h q⟩
    | .q ks x, h =>
      obtain ⟨ok, a, b, u, rfl, hs, hb, hu⟩ := rv
      have r : RvL K G α [.ref b, u] [.k ks, .d x] := .cons ⟨ok, b, rfl, hb⟩ (.cons hu .nil)
      exact ⟨a, _, rfl, rel.ex.sqT hs, by rw [r.len]; exact Tg.puts_len ts h, Tg.puts_ok ts rel sl r h q⟩
    | .t xs, h =>
      obtain ⟨a, vs, rfl, hs, hr⟩ := rv
      have r := RiL.rv hr
      exact ⟨a, _, rfl, rel.ex.sqT (SqT.of hs), by rw [r.len]; exact Tg.puts_len ts h, Tg.puts_ok ts rel sl r h q⟩
theorem Tg.puts_ok : ∀ (ts : List Tg) {ds : List W} {vs : List V} {Γ : Gm} {σ : L2.St} {R : Gm → Prop} {O : Oh} {Q : L2.St → Hp → Prop}, Rel K mg G α O H → Sl K G α Γ σ → RvL K G α vs ds → Tg.puts ts ds Γ R →
    (∀ Γ' σ', R Γ' → Sl K G α Γ' σ' → (∀ own, Tg.subs own ts = true → wipe σ' own = wipe σ own) → Q σ' H) → Tg.gs K ts vs σ H Q
  | [], ds, vs, Γ, σ, R, O, Q, rel, sl, rv, h, q => by
    match ds, h with
    | [], h =>
      cases rv
      exact ⟨rfl, q _ _ h sl fun _ _ => rfl⟩
  | t :: ts, ds, vs, Γ, σ, R, O, Q, rel, sl, rv, h, q => by
    match ds, h with
    | d :: r, h =>
      cases rv with
      | cons r1 r2 =>
        rename_i v vr
        refine ⟨v, vr, rfl, Tg.put_ok t rel sl (w := d) r1 h fun Γ1 σ1 h1 sl1 w1 => ?_⟩
        refine Tg.puts_ok ts rel sl1 r2 h1 fun Γ2 σ2 h2 sl2 w2 => ?_
        refine q Γ2 σ2 h2 sl2 fun own ho => ?_
        have ho' : t.sub own = true ∧ Tg.subs own ts = true := by
          have z : (t.sub own && Tg.subs own ts) = true := ho
          rwa [Bool.and_eq_true] at z
        rw [w2 own ho'.2, w1 own ho'.1]
theorem Tg.puts_len : ∀ (ts : List Tg) {ds : List W} {Γ : Gm} {R : Gm → Prop}, Tg.puts ts ds Γ R → ds.length = Tg.len ts
  | [], ds, Γ, R, h => by
    match ds, h with
    | [], h => rfl
  | t :: ts, ds, Γ, R, h => by
    match ds, h with
    | d :: r, h =>
      show r.length + 1 = Tg.len ts + 1
      obtain ⟨Γ1, h1⟩ := Tg.put_some t h
      rw [Tg.puts_len ts h1]
theorem Tg.put_some : ∀ (t : Tg) {w : W} {Γ : Gm} {R : Gm → Prop}, t.put w Γ R → ∃ Γ', R Γ'
  | .nm i, w, Γ, R, h => ⟨_, h⟩
  | .tup ts, w, Γ, R, h => by
    match w, h with
    | .d (.tuple ds), h => exact Tg.puts_some ts h
    | .p ds, h => exact Tg.puts_some ts h
    | .k ks, h => exact Tg.puts_some ts h
    | .q ks x, h => exact Tg.puts_some ts h
    | .t xs, h => exact Tg.puts_some ts h
theorem Tg.puts_some : ∀ (ts : List Tg) {ds : List W} {Γ : Gm} {R : Gm → Prop}, Tg.puts ts ds Γ R → ∃ Γ', R Γ'
  | [], ds, Γ, R, h => by
    match ds, h with
    | [], h => exact ⟨_, h⟩
  | t :: ts, ds, Γ, R, h => by
    match ds, h with
    | d :: r, h =>
      obtain ⟨Γ1, h1⟩ := Tg.put_some t h
      exact Tg.puts_some ts h1
end
end
/-- name = e, (a, b) = e -/
def dAsg (w : DEx) (t : Tg) : DSt := fun D xe Γ O => w Γ O (fun x O1 => t.put x Γ fun Γ' => D.nx Γ' O1) xe
theorem lift_asg {K : Fg} {mg : Str → Option Value} {w : DEx} {t : Tg} {D : Ends} {σ : L2.St} {H : Hp} (h : liftS K mg Wx (dAsg w t) D σ H) : tAsg (liftE K mg Wx w) (t.g K) D σ H := by
  obtain ⟨G, α, Γ, O, DD, xe, sl, rel, h, p, xp⟩ := h
  refine ⟨G, α, Γ, O, _, xe, sl, rel, h, fun x O1 h1 v G1 α1 H1 e1 p1 rel1 r1 => ?_, xp⟩
  exact Tg.put_ok t rel1 (sl.mono e1 p1) r1 h1 fun Γ' σ' q sl' _ => p.nx _ _ q _ _ _ _ e1 p1 rel1 sl'
theorem ds_set (g : Good X Wx k) {i : Nat} {x : Str} {pos' : Pos} (hi : X.N[i]? = some x) (hx : Loc X.env.scope x) (he : DE X Wx e we) (hs : swapsWith e (some (.Name x pos')) pos.line X.env = pure false := by rfl) (hf : X.fn x = true ∨ X.env.scope.names.lookup x = some .local := by first | exact .inl rfl | exact .inr rfl | assumption) :
    DS X Wx (.Assign [.Name x pos'] e pos) (dAsg we (.nm i)) := ps_imp (fun D σ H h => lift_asg h) (ps_set g.nd hi hx he hs hf)
/-- a, b = e1, e2 -/
def dPar (i j : Nat) (ws : DA) : DSt := fun D xe Γ O => ws Γ O (fun vs O1 => match vs with
  | [v, w] => D.nx ((Γ.set i (some v)).set j (some w)) O1
  | _ => False) xe
theorem ds_par (g : Good X Wx k) {ws : DA} {i j : Nat} {x y : Str} {px py pt : Pos} {kt k2 pt2} (hi : X.N[i]? = some x) (hj : X.N[j]? = some y) (hij : i ≠ j)
    (hx : X.env.scope.names.lookup x = some .local) (hy : X.env.scope.names.lookup y = some .local) (ha : DAs X Wx [a, b] ws)
    (hw : swappedStores [.Tuple [.Name x px, .Name y py] kt pt] (.Tuple [a, b] k2 pt2) X.env = pure (some [x, y]))
    (hs : swapsWithSole [.Tuple [.Name x px, .Name y py] kt pt] (.Tuple [a, b] k2 pt2) pos.line X.env = pure false := by rfl) :
    DS X Wx (.Assign [.Tuple [.Name x px, .Name y py] kt pt] (.Tuple [a, b] k2 pt2) pos) (dPar i j ws) := by
  refine ps_imp (fun D σ H ⟨G, α, Γ, O, DD, xe, sl, rel, h, p, xp⟩ => ?_) (ps_par g.calm g.nd hi hj hij hx hy ha hw hs)
  refine ⟨G, α, Γ, O, _, xe, sl, rel, h, fun y O1 h1 vs G1 α1 H1 e1 p1 rel1 r1 => ?_, xp⟩
  dsimp only at h1
  split at h1
  · next v w =>
    cases r1 with
    | cons ra rr =>
      cases rr with
      | cons rb rn =>
        cases rn
        exact ⟨_, _, rfl, p.nx _ _ h1 _ _ _ _ e1 p1 rel1 (((sl.mono e1 p1).set ra i).set rb j)⟩
  · exact h1.elim
/-! #### what is walked -/
theorem pre_get' {α α' : Al} {k : Nat} {a : Addr} (h : α.as <+: α'.as) (e : α.as[k]? = some a) : α'.as[k]? = some a := by
  obtain ⟨t, ht⟩ := h
  rw [← ht, List.getElem?_append_left (List.getElem?_eq_some_iff.mp e).1]
  exact e
theorem Rv.mono' {K : Fg} {G G' : Hp} {α α' : Al} {v : V} {w : W} (e : Ex G G') (p : α.as <+: α'.as) (h : Rv K G α v w) : Rv K G' α' v w := by
  have h' : Rv K G ⟨α.as, α'.hid⟩ v w := by cases w <;> exact h
  have pp : Pre ⟨α.as, α'.hid⟩ α' := ⟨p, rfl⟩
  exact h'.mono e pp
theorem Sl.mono' {K : Fg} {G G' : Hp} {α α' : Al} {Γ : Gm} {σ : L2.St} (e : Ex G G') (p : α.as <+: α'.as) (h : Sl K G α Γ σ) : Sl K G' α' Γ σ := ⟨h.len, fun i w q => by
  obtain ⟨v, h1, h2⟩ := h.at_ i w q
  exact ⟨v, h1, h2.mono' e p⟩⟩
abbrev DI := Gm → Oh → (List W → (Oh → Prop) → Oh → Prop) → DX → Prop
/-- the walk of J yields just these, while ok holds -/
def Sim (K : Fg) (mg : Str → Option Value) (J : It) (G0 : Hp) (α0 : Al) (xs : List W) (ok : Oh → Prop) : Prop := ∀ (i : Nat) (G : Hp) (α : Al) (O : Oh) (H : Hp), Ex G0 G → α0.as <+: α.as → Rel K mg G α O H → ok O →
  (xs.length ≤ i → J.stop i H) ∧ ∀ w, xs[i]? = some w → J.go i H ∧ ∀ x H', J.yld i H x H' → ∃ G', Ex G G' ∧ Rel K mg G' α O H' ∧ Rv K G' α x w
def liftI (K : Fg) (mg : Str → Option Value) (Wx : WX) (w : DI) : TI := fun σ H R => ∃ G α Γ O S xe, Sl K G α Γ σ ∧ Rel K mg G α O H ∧ w Γ O S xe ∧ XPost K mg G α xe Wx ∧
  ∀ xs ok O', S xs ok O' → ∀ J G' α' H', Ex G G' → Pre α α' → Rel K mg G' α' O' H' → Sim K mg J G' α' xs ok → R J H'
def DIt (X : Cx) (Wx : WX) (tg it : Expr) (w : DI) : Prop := PI X tg it (liftI X.K X.mg Wx w)
theorem pi_imp {X : Cx} {tg it : Expr} {t t' : TI} (i : ∀ σ H R, t' σ H R → t σ H R) (h : PI X tg it t) : PI X tg it t' := ⟨fun pins s σ H R I q => h.run pins s σ H R I (i _ _ _ q)⟩
/-- a list or a tuple -/
def dSeqI (w : DEx) : DI := fun Γ O S xe => w Γ O (fun r O1 => match r with
  | .d (.list ds) => S (ds.map W.d) (fun _ => True) O1
  | .d (.tuple ds) => S (ds.map W.d) (fun _ => True) O1
  | .c k => match O1[k]? with
    | some (.lst ws) => S ws (fun O => O[k]? = some (.lst ws)) O1
    | _ => False
  | _ => False) xe
def iSeq (K : Fg) (tl : TE) : TI := fun σ H R => tl σ H fun x H1 => (∃ a, x = .ref a ∧ (∃ xs, SqL K H1 a xs) ∧ R (Itl K a) H1) ∨ (∃ a, x = .ref a ∧ (∃ xs, SqT K H1 a xs) ∧ R (Itt K a) H1)
theorem pi_seq {tg l : Expr} {tl : TE} (hl : PE X l tl) : PI X tg l (iSeq X.K tl) := by
  refine ⟨fun pins s σ H R I h => ?_⟩
  refine thn (hl.run pins s σ H _ I h) fun v s1 ⟨x, H1, I1, r1, q1⟩ => ?_
  rcases q1 with ⟨a, e, ⟨xs, hq⟩, q⟩ | ⟨a, e, ⟨xs, hq⟩, q⟩
  · subst e
    cases r1
    obtain ⟨its, rv, p, hz⟩ := I1.list hq
    refine wpAny_pyIter_list p.isList ?_
    refine ⟨s1.heap.objs.size, [s1.heap.objs.size], _, _, H1, rfl, I1.kept (t' := s1.toks) fun b o e => Heap.get?_push_of_some _ e, turn_list a _, ⟨_, Heap.get?_push_size _ rfl, rfl, rfl⟩, fun b hb => ?_, q⟩
    have e : b = s1.heap.objs.size := by simpa using hb
    subst e
    exact I1.fpOk (Nat.le_refl _) (I1.hok.fresh (Nat.le_refl _))
  · subst e
    cases r1
    obtain ⟨its, rv, p, hz⟩ := I1.tuple hq
    refine wpAny_pyIter_tuple (show s1.heap.IsTuple a its.toArray from p) ?_
    refine ⟨s1.heap.objs.size, [s1.heap.objs.size], _, _, H1, rfl, I1.kept (t' := s1.toks) fun b o e => Heap.get?_push_of_some _ e, turn_tuple a _, ⟨_, Heap.get?_push_size _ rfl, rfl, rfl⟩, fun b hb => ?_, q⟩
    have e : b = s1.heap.objs.size := by simpa using hb
    subst e
    exact I1.fpOk (Nat.le_refl _) (I1.hok.fresh (Nat.le_refl _))
theorem sim_list {K : Fg} {mg : Str → Option Value} {G0 : Hp} {α0 : Al} {a : Addr} {vs : List V} {ds : List PyData} (h : SqL K G0 a vs) (r : RpL K G0 vs ds) : Sim K mg (Itl K a) G0 α0 (ds.map W.d) fun _ => True := by
  intro i G α O H e p rel _
  have h' : SqL K H a vs := rel.ex.sqL (e.sqL h)
  refine ⟨fun hi => ⟨vs, h', by rw [r.length]; rw [List.length_map] at hi; exact hi⟩, fun w hw => ?_⟩
  rw [List.getElem?_map] at hw
  cases hd : ds[i]? with
  | none => rw [hd] at hw; cases hw
  | some d =>
    rw [hd] at hw
    cases hw
    obtain ⟨v, hv, rv⟩ := r.get hd
    refine ⟨⟨vs, v, h', hv⟩, fun x H' ⟨eH, y⟩ => ?_⟩
    subst eH
    have := y vs h'
    rw [hv] at this
    cases this
    exact ⟨G, Ex.refl _, rel, rv.mono e⟩
theorem sim_tup {K : Fg} {mg : Str → Option Value} {G0 : Hp} {α0 : Al} {a : Addr} {vs : List V} {ds : List PyData} (h : SqT K G0 a vs) (r : RpL K G0 vs ds) : Sim K mg (Itt K a) G0 α0 (ds.map W.d) fun _ => True := by
  intro i G α O H e p rel _
  have h' : SqT K H a vs := rel.ex.sqT (e.sqT h)
  refine ⟨fun hi => ⟨vs, h', by rw [r.length]; rw [List.length_map] at hi; exact hi⟩, fun w hw => ?_⟩
  rw [List.getElem?_map] at hw
  cases hd : ds[i]? with
  | none => rw [hd] at hw; cases hw
  | some d =>
    rw [hd] at hw
    cases hw
    obtain ⟨v, hv, rv⟩ := r.get hd
    refine ⟨⟨vs, v, h', hv⟩, fun x H' ⟨eH, y⟩ => ?_⟩
    subst eH
    have := y vs h'
    rw [hv] at this
    cases this
    exact ⟨G, Ex.refl _, rel, rv.mono e⟩
theorem sim_cell {K : Fg} {mg : Str → Option Value} {G0 : Hp} {α0 : Al} {a : Addr} {k : Nat} {ws : List W} (ha : α0.as[k]? = some a) : Sim K mg (Itl K a) G0 α0 ws fun O => O[k]? = some (.lst ws) := by
  intro i G α O H e p rel ok
  obtain ⟨_, vs, hH, r⟩ := rel.at_ k a _ (pre_get' p ha) ok
  have h' : SqL K H a vs := SqL.of hH
  refine ⟨fun hi => ⟨vs, h', by rw [r.len]; exact hi⟩, fun w hw => ?_⟩
  obtain ⟨v, hv, rv⟩ := r.get hw
  refine ⟨⟨vs, v, h', hv⟩, fun x H' ⟨eH, y⟩ => ?_⟩
  subst eH
  have := y vs h'
  rw [hv] at this
  cases this
  exact ⟨G, Ex.refl _, rel, rv⟩
theorem di_seq {tg l : Expr} (hl : DE X Wx l wa) : DIt X Wx tg l (dSeqI wa) := by
  refine pi_imp (fun σ H R ⟨G, α, Γ, O, S, xe, sl, rel, h, xp, q⟩ => ?_) (pi_seq hl)
  refine ⟨G, α, Γ, O, _, xe, sl, rel, h, fun x O1 h1 v G1 α1 H1 e1 p1 rel1 r1 => ?_, xp⟩
  dsimp only at h1
  split at h1
  · next ds =>
    cases r1 with
    | lst hs ha => exact .inl ⟨_, rfl, ⟨_, SqL.of (rel1.ex _ _ hs)⟩, q _ _ _ h1 _ _ _ _ e1 p1 rel1 (sim_list (SqL.of hs) ha)⟩
  · next ds =>
    cases r1 with
    | tup hs td ha => exact .inr ⟨_, rfl, ⟨_, rel1.ex.sqT hs⟩, q _ _ _ h1 _ _ _ _ e1 p1 rel1 (sim_tup hs ha)⟩
  · next k =>
    split at h1
    · next ws ek =>
      obtain ⟨a, ha, rfl⟩ := r1
      obtain ⟨_, vs, hH, r⟩ := rel1.at_ k a _ ha ek
      exact .inl ⟨_, rfl, ⟨_, SqL.of hH⟩, q _ _ _ h1 _ _ _ _ e1 p1 rel1 (sim_cell ha)⟩
    · exact h1.elim
  · exact h1.elim
/-- lo, lo + 1, .. -/
def rgW (lo : Int) : Nat → List W
  | 0 => []
  | n + 1 => .d (.int lo) :: rgW (lo + 1) n
theorem rgW_len : ∀ (lo : Int) (n : Nat), (rgW lo n).length = n
  | _, 0 => rfl
  | lo, n + 1 => by show (rgW (lo + 1) n).length + 1 = n + 1; rw [rgW_len]
theorem rgW_get : ∀ (lo : Int) (n i : Nat), i < n → (rgW lo n)[i]? = some (.d (.int (lo + (i : Nat))))
  | lo, 0, i, h => by omega
  | lo, n + 1, 0, h => by show some _ = _; simp
  | lo, n + 1, i + 1, h => by
    show (rgW (lo + 1) n)[i]? = _
    rw [rgW_get (lo + 1) n i (by omega)]
    congr 3
    omega
theorem sim_rng {K : Fg} {mg : Str → Option Value} {G0 : Hp} {α0 : Al} {lo : Int} {n : Nat} : Sim K mg (Itr lo n) G0 α0 (rgW lo n) fun _ => True := by
  intro i G α O H e p rel _
  refine ⟨fun hi => by rw [rgW_len] at hi; exact hi, fun w hw => ?_⟩
  have hi : i < n := by
    have := (List.getElem?_eq_some_iff.mp hw).1
    rwa [rgW_len] at this
  rw [rgW_get lo n i hi] at hw
  cases hw
  refine ⟨hi, fun x H' ⟨eH, y⟩ => ?_⟩
  subst eH
  subst y
  exact ⟨G, Ex.refl _, rel, .int _⟩
def dRng1 (w : DA) : DI := fun Γ O S xe => w Γ O (fun vs O1 => match vs with
  | [.d (.int j)] => j < 4611686018427387904 ∧ -4611686018427387904 ≤ j ∧ S (rgW 0 j.toNat) (fun _ => True) O1
  | _ => False) xe
theorem di_rng1 {tg : Expr} {ws : DA} {p pos : Pos} (hm : X.mg "range" = none) (ha : DAs X Wx [a] ws) (hg : Gl X "range" := by rfl) (hs : starEach [a] X.env = [(false, eval a X.env)] := by rfl) : DIt X Wx tg (.Call (.Name "range" p) [a] [] pos) (dRng1 ws) := by
  refine pi_imp (fun σ H R ⟨G, α, Γ, O, S, xe, sl, rel, h, xp, q⟩ => ?_) (pi_range1 hg hm ha hs)
  refine ⟨G, α, Γ, O, _, xe, sl, rel, h, fun x O1 h1 v G1 α1 H1 e1 p1 rel1 r1 => ?_, xp⟩
  dsimp only at h1
  split at h1
  · next j =>
    cases r1 with
    | cons ra rn =>
      cases rn
      cases ra
      exact ⟨j, rfl, h1.2.1, h1.1, q _ _ _ h1.2.2 _ _ _ _ e1 p1 rel1 sim_rng⟩
  · exact h1.elim
/-! #### for -/
def forGo (ok : Oh → Prop) (t : Tg) (body : DSt) (D : DEnds) (xe : DX) : List W → Gm → Oh → Prop
  | [], Γ, O => ok O ∧ D.nx Γ O
  | x :: r, Γ, O => ok O ∧ t.put x Γ fun Γ1 => body ⟨forGo ok t body D xe r, D.rt, D.nx, forGo ok t body D xe r⟩ xe Γ1 O
def dFor (w : DI) (t : Tg) (body : DSt) : DSt := fun D xe Γ O => w Γ O (fun xs ok O1 => forGo ok t body D xe xs Γ O1) xe
theorem ds_for (g : Good X Wx k) {tg it : Expr} {wi : DI} {body : List Stmt} {tb : DSt} (t : Tg) (hi : DIt X Wx tg it wi) (hg : PG X tg (t.g X.K)) (hb : DSs X Wx body tb) (hs : ∀ x, foldedSetIterable it X.env x = pure x := by intro _; rfl) :
    DS X Wx (.For tg it body [] pos) (dFor wi t tb) := by
  refine ps_imp (fun D σ H ⟨G, α, Γ, O, DD, xe, sl, rel, h, p, xp⟩ => ?_) (ps_for g.ps g.calm hi hg hb hs)
  refine ⟨G, α, Γ, O, _, xe, sl, rel, h, xp, fun xs ok O1 h1 J G1 α1 H1 e1 p1 rel1 sim => ?_⟩
  refine ⟨fun i m σ H => m = xs.length - i ∧ i ≤ xs.length ∧ ∃ G2 α2 Γ2 O2, Ex G1 G2 ∧ Pre α1 α2 ∧ Sl X.K G2 α2 Γ2 σ ∧ Rel X.K X.mg G2 α2 O2 H ∧ forGo ok t tb DD xe (xs.drop i) Γ2 O2,
    ⟨xs.length, by simp, Nat.zero_le _, G1, α1, Γ, O1, Ex.refl _, Pre.refl _, sl.mono e1 p1, rel1, h1⟩, ?_⟩
  rintro i m σ2 H2 ⟨rfl, hi, G2, α2, Γ2, O2, e2, p2, sl2, rel2, h2⟩
  by_cases hl : i < xs.length
  · rw [List.drop_eq_getElem_cons hl] at h2
    obtain ⟨ok2, h2⟩ := h2
    obtain ⟨hgo, hy⟩ := (sim i G2 α2 O2 H2 e2 p2.1 rel2 ok2).2 xs[i] (List.getElem?_eq_getElem hl)
    refine .inr ⟨hgo, fun σ3 H3 => ∃ G3 α3 Γ3 O3, Ex G1 G3 ∧ Pre α1 α3 ∧ Sl X.K G3 α3 Γ3 σ3 ∧ Rel X.K X.mg G3 α3 O3 H3 ∧ forGo ok t tb DD xe (xs.drop (i + 1)) Γ3 O3,
      fun σ' H' hN => ⟨xs.length - (i + 1), by omega, rfl, hl, hN⟩, fun x H3 y => ?_⟩
    obtain ⟨G3, e3, rel3, rv3⟩ := hy x H3 y
    refine Tg.put_ok t rel3 (sl2.mono e3 (Pre.refl _)) rv3 h2 fun Γ4 σ4 h4 sl4 _ => ?_
    refine ⟨G3, α2, Γ4, O2, _, xe, sl4, rel3, h4, ⟨fun Γ5 O5 h5 σ5 G5 α5 H5 e5 p5 rel5 sl5 => ?_, (p.rt.mono (e1.trans (e2.trans e3)) (p1.trans p2)), p.nx.mono (e1.trans (e2.trans e3)) (p1.trans p2), fun Γ5 O5 h5 σ5 G5 α5 H5 e5 p5 rel5 sl5 => ?_⟩, xp.mono (e1.trans (e2.trans e3)) (p1.trans p2)⟩
    · exact ⟨G5, α5, Γ5, O5, e2.trans (e3.trans e5), p2.trans p5, sl5, rel5, h5⟩
    · exact ⟨G5, α5, Γ5, O5, e2.trans (e3.trans e5), p2.trans p5, sl5, rel5, h5⟩
  · have ei : i = xs.length := by omega
    subst ei
    rw [List.drop_length] at h2
    exact .inl ⟨(sim _ G2 α2 O2 H2 e2 p2.1 rel2 h2.1).1 (Nat.le_refl _), p.nx _ _ h2.2 _ _ _ _ (e1.trans e2) (p1.trans p2) rel2 sl2⟩
/-! #### while -/
def whileGo (c : DT) (body : DSt) (D : DEnds) (xe : DX) : Nat → Gm → Oh → Prop
  | 0, _, _ => False
  | n + 1, Γ, O => c Γ O (fun b O1 => if b = true then body ⟨whileGo c body D xe n, D.rt, D.nx, whileGo c body D xe n⟩ xe Γ O1 else D.nx Γ O1) xe
def dWhile (c : DT) (body : DSt) : DSt := fun D xe Γ O => ∃ n, whileGo c body D xe n Γ O
theorem ds_while (g : Good X Wx k) {tc : DT} {tb : DSt} {body : List Stmt} (hc : DTt X Wx c tc) (hb : DSs X Wx body tb) : DS X Wx (.While c body [] pos) (dWhile tc tb) := by
  refine ps_imp (fun D σ H ⟨G, α, Γ, O, DD, xe, sl, rel, h, p, xp⟩ => ?_) (ps_while g.ps hc hb)
  obtain ⟨n, h⟩ := h
  refine ⟨fun m σ H => ∃ G1 α1 Γ1 O1, Ex G G1 ∧ Pre α α1 ∧ Sl X.K G1 α1 Γ1 σ ∧ Rel X.K X.mg G1 α1 O1 H ∧ whileGo tc tb DD xe m Γ1 O1, ⟨n, G, α, Γ, O, Ex.refl _, Pre.refl _, sl, rel, h⟩, ?_⟩
  rintro m σ1 H1 ⟨G1, α1, Γ1, O1, e1, p1, sl1, rel1, h1⟩
  cases m with
  | zero => exact h1.elim
  | succ m =>
    refine ⟨G1, α1, Γ1, O1, _, xe, sl1, rel1, h1, fun b O2 h2 G2 α2 H2 e2 p2 rel2 => ?_, xp.mono e1 p1⟩
    dsimp only at h2 ⊢
    have e12 := e1.trans e2
    have p12 := p1.trans p2
    split at h2
    · next c =>
      rw [if_pos c]
      refine ⟨fun σ3 H3 => ∃ G3 α3 Γ3 O3, Ex G G3 ∧ Pre α α3 ∧ Sl X.K G3 α3 Γ3 σ3 ∧ Rel X.K X.mg G3 α3 O3 H3 ∧ whileGo tc tb DD xe m Γ3 O3, fun σ' H' hN => ⟨m, Nat.lt_succ_self _, hN⟩, ?_⟩
      refine ⟨G2, α2, Γ1, O2, _, xe, sl1.mono e2 p2, rel2, h2, ⟨fun Γ5 O5 h5 σ5 G5 α5 H5 e5 p5 rel5 sl5 => ⟨G5, α5, Γ5, O5, e12.trans e5, p12.trans p5, sl5, rel5, h5⟩, p.rt.mono e12 p12, p.nx.mono e12 p12, fun Γ5 O5 h5 σ5 G5 α5 H5 e5 p5 rel5 sl5 => ⟨G5, α5, Γ5, O5, e12.trans e5, p12.trans p5, sl5, rel5, h5⟩⟩, xp.mono e12 p12⟩
    · next c =>
      rw [if_neg c]
      exact p.nx _ _ h2 _ _ _ _ e12 p12 rel2 (sl1.mono e2 p2)
end
end Dl
namespace Dl
open PySem PySem.Spec PyProof.Rows L2
section
variable {X : Cx} {Wx : WX} {k : Nat} {a b c e : Expr} {wa wb wc we : DEx} {pos p2 : Pos} {t u : DSt} {st : Stmt} {rest : List Stmt}
/-! #### list comprehensions -/
abbrev W0 : WX := fun _ _ _ _ => False
abbrev X0 : DX := fun _ _ _ => False
theorem xp0 {K : Fg} {mg : Str → Option Value} {G : Hp} {α : Al} {Wx : WX} : XPost K mg G α X0 Wx := fun _ _ _ z => z.elim
theorem Good.blk {s : Shared} {H : Hp} {scope : Scope} {cenv : Env} {fp : List Addr} (g : Good X Wx k) : Good (X.blk s H scope cenv fp) W0 k := ⟨takesN0, PassesOwn.never, g.rm, g.calm, g.nd⟩
def dYes : DT := fun _ O R _ => R true O
/-- the slots of the comprehension's own names forgotten -/
def wipeG (Γ : Gm) : List Nat → Gm
  | [] => Γ
  | v :: vs => (wipeG Γ vs).set v none
theorem sl_wipe {K : Fg} {G : Hp} {α : Al} {Γ : Gm} {σ : L2.St} (h : Sl K G α Γ σ) : ∀ own : List Nat, Sl K G α (wipeG Γ own) (wipe σ own)
  | [] => h
  | v :: vs => (sl_wipe h vs).forget v none
theorem wipe_wipe (σ : L2.St) : ∀ own : List Nat, wipe (wipe σ own) own = wipe σ own
  | [] => rfl
  | v :: vs => by
    show wipe ((wipe σ vs).set v none) (v :: vs) = _
    rw [wipe_set (v := none) (List.mem_cons_self)]
    show (wipe (wipe σ vs) vs).set v none = (wipe σ vs).set v none
    rw [wipe_wipe σ vs]
def lcGo (ok : Oh → Prop) (t : Tg) (tt : DT) (we : DEx) (Γ : Gm) (fin : List PyData → Oh → Prop) : List W → List PyData → Oh → Prop
  | [], acc, O => ok O ∧ fin acc O
  | x :: r, acc, O => ok O ∧ t.put x Γ fun Γ1 => tt Γ1 O (fun b O1 => if b = true then we Γ1 O1 (fun y O2 => match y with
      | .d z => acc.length < 1000000 ∧ lcGo ok t tt we Γ fin r (acc ++ [z]) O2
      | _ => False) X0 else lcGo ok t tt we Γ fin r acc O1) X0
/-- [e for t in w if tt], a list that never changes -/
def dLc (w : DI) (t : Tg) (tt : DT) (we : DEx) (own : List Nat) : DEx := fun Γ O R xe => w Γ O (fun xs ok O1 => lcGo ok t tt we (wipeG Γ own) (fun acc O2 => R (.d (.list acc)) O2) xs [] O1) xe
def DTs (X : Cx) (ifs : List Expr) (tt : DT) : Prop := PTs X ifs (liftT X.K X.mg W0 tt)
theorem dts_nil : DTs X [] dYes := by
  refine ⟨fun pins s σ H Q I h => ?_⟩
  obtain ⟨G, α, Γ, O, R, xe, sl, rel, h, p, xp⟩ := h
  exact (pts_nil (X := X)).run pins s σ H Q I (p.here h rel)
theorem dts_one {c : Expr} {t : DT} (h : DTt X W0 c t) : DTs X [c] t := pts_one h
theorem lift_lcG {K : Fg} {mg : Str → Option Value} {w : DI} {t : Tg} {tt : DT} {we : DEx} {own : List Nat} (hs : t.sub own = true) {σ : L2.St} {H : Hp} {Q : VK} {G : Hp} {α : Al} {Γ : Gm} {O : Oh} {xe : DX} {fin : List PyData → Oh → Prop}
    (sl : Sl K G α Γ σ) (rel : Rel K mg G α O H) (xp : XPost K mg G α xe Wx) (h : w Γ O (fun xs ok O1 => lcGo ok t tt we (wipeG Γ own) fin xs [] O1) xe)
    (hq : ∀ acc O2 G2 as2 H2 vs D, Ex G G2 → α.as <+: as2 → RpL K G2 vs acc → Rel K mg G2 ⟨as2, (D, .lst vs) :: α.hid⟩ O2 H2 → (∀ q ∈ α.hid, q.1 ≠ D) → fin acc O2 → Q (.ref D) H2) :
    tLc (liftI K mg Wx w) (t.g K) (liftT K mg W0 tt) (liftE K mg W0 we) own σ H Q := by
  refine ⟨G, α, Γ, O, _, xe, sl, rel, h, xp, fun xs ok O1 h1 J G1 α1 H1 e1 p1 rel1 sim D hD => ?_⟩
  have slw : Sl K G1 α1 (wipeG Γ own) (wipe σ own) := sl_wipe (sl.mono e1 p1) own
  have hη : ∀ q ∈ α1.hid, q.1 ≠ D := fun q hq => ne_of_none (rel1.hd q hq).1 hD
  -- the list that is made is hidden at D
  refine ⟨fun i m H => m = xs.length - i ∧ i ≤ xs.length ∧ ∃ G2 as2 O2 acc vs, Ex G1 G2 ∧ α1.as <+: as2 ∧ RpL K G2 vs acc ∧ Rel K mg G2 ⟨as2, (D, .lst vs) :: α1.hid⟩ O2 H ∧ lcGo ok t tt we (wipeG Γ own) fin (xs.drop i) acc O2,
    ⟨xs.length, by simp, Nat.zero_le _, G1, α1.as, O1, [], [], Ex.refl _, List.prefix_refl _, .nil, rel1.hidden hD ⟨(fun b z => by cases z), (fun b z => by cases z)⟩, h1⟩, ?_⟩
  rintro i m H2 ⟨rfl, hi, G2, as2, O2, acc, vs, e2, p2, racc, rel2, h2⟩
  by_cases hl : i < xs.length
  · rw [List.drop_eq_getElem_cons hl] at h2
    obtain ⟨ok2, h2⟩ := h2
    obtain ⟨hgo, hy⟩ := (sim i G2 _ O2 H2 e2 p2 rel2 ok2).2 xs[i] (List.getElem?_eq_getElem hl)
    refine .inr ⟨hgo, fun H3 => ∃ G3 as3 O3 acc vs, Ex G1 G3 ∧ α1.as <+: as3 ∧ RpL K G3 vs acc ∧ Rel K mg G3 ⟨as3, (D, .lst vs) :: α1.hid⟩ O3 H3 ∧ lcGo ok t tt we (wipeG Γ own) fin (xs.drop (i + 1)) acc O3,
      fun H' hN => ⟨xs.length - (i + 1), by omega, rfl, hl, hN⟩, fun x H3 y => ?_⟩
    obtain ⟨G3, e3, rel3, rv3⟩ := hy x H3 y
    refine Tg.put_ok t rel3 (slw.mono' (α' := ⟨as2, (D, .lst vs) :: α1.hid⟩) (e2.trans e3) p2) rv3 h2 fun Γ4 σ4 h4 sl4 w4 => ?_
    refine ⟨(w4 own hs).trans (wipe_wipe σ own), ⟨G3, _, Γ4, O2, _, X0, sl4, rel3, h4, fun b O5 h5 G5 α5 H5 e5 p5 rel5 => ?_, xp0⟩⟩
    obtain ⟨as5, hid5⟩ := α5
    obtain ⟨p5a, p5b⟩ := p5
    have p5b : hid5 = (D, .lst vs) :: α1.hid := p5b
    subst p5b
    dsimp only at h5 ⊢
    split at h5
    · next cb =>
      rw [if_pos cb]
      refine ⟨G5, _, Γ4, O5, _, X0, sl4.mono' (α' := ⟨as5, (D, .lst vs) :: α1.hid⟩) e5 p5a, rel5, h5, fun y O6 h6 v6 G6 α6 H6 e6 p6 rel6 r6 => ?_, xp0⟩
      obtain ⟨as6, hid6⟩ := α6
      obtain ⟨p6a, p6b⟩ := p6
      have p6b : hid6 = (D, .lst vs) :: α1.hid := p6b
      subst p6b
      try dsimp only at h6 ⊢
      split at h6
      · next z =>
        have hD6 : H6 D = some (.lst vs) := (rel6.hd (D, .lst vs) List.mem_cons_self).1
        have racc6 : RpL K G6 vs acc := racc.mono (e3.trans (e5.trans e6))
        refine ⟨vs, hD6, by rw [racc6.length]; exact szlt h6.1, G6, as6, O6, acc ++ [z], vs ++ [v6], e2.trans (e3.trans (e5.trans e6)), p2.trans (p5a.trans p6a), racc6.append (.cons r6 .nil), ?_, h6.2⟩
        exact Rel.rehide (α := ⟨as6, []⟩) rel6 ⟨(fun b z => by cases z), (fun b z => by cases z)⟩ hη
      · exact h6.elim
    · next cb =>
      rw [if_neg cb]
      exact ⟨G5, as5, O5, acc, vs, e2.trans (e3.trans e5), p2.trans p5a, racc.mono (e3.trans e5), rel5, h5⟩
  · have ei : i = xs.length := by omega
    subst ei
    rw [List.drop_length] at h2
    refine .inl ⟨(sim _ G2 _ O2 H2 e2 p2 rel2 h2.1).1 (Nat.le_refl _), ?_⟩
    rw [p1.2] at rel2 hη
    exact hq _ _ _ _ _ _ _ (e1.trans e2) (p1.1.trans p2) racc rel2 hη h2.2
theorem lift_lc {K : Fg} {mg : Str → Option Value} {w : DI} {t : Tg} {tt : DT} {we : DEx} {own : List Nat} (hs : t.sub own = true) {σ : L2.St} {H : Hp} {Q : VK} (h : liftE K mg Wx (dLc w t tt we own) σ H Q) :
    tLc (liftI K mg Wx w) (t.g K) (liftT K mg W0 tt) (liftE K mg W0 we) own σ H Q := by
  obtain ⟨G, α, Γ, O, R, xe, sl, rel, h, p, xp⟩ := h
  refine lift_lcG hs sl rel xp h fun acc O2 G2 as2 H2 vs D e2 p2 racc rel2 hη hf => ?_
  have g2 : G2 D = none := (rel2.hd (D, .lst vs) List.mem_cons_self).2.1
  have rel3 := Rel.show (α := ⟨as2, []⟩) rel2 hη
  exact p _ _ hf _ _ ⟨as2, α.hid⟩ _ (e2.trans (Ex.new g2)) ⟨p2, rfl⟩ rel3 (.lst upd_same (racc.mono (Ex.new g2)))
theorem de_lc (g : Good X Wx k) {elt tg iter : Expr} {ifs : List Expr} {scope : Scope} {own : List (Str × Nat)} {w : DI} {tt : DT} (t : Tg) (hs' : t.sub (own.map (·.2)) = true) (hi : DIt X Wx tg iter w) (ok : BlkOk X.N X.env.scope scope own)
    (hg : ∀ (s : Shared) (H : Hp) (C : Addr) (cl : List (Str × Addr)) (fp : List Addr), PG (X.blk s H scope (compEnvC scope cl C X.env) fp) tg (t.g X.K))
    (ht : ∀ (s : Shared) (H : Hp) (C : Addr) (cl : List (Str × Addr)) (fp : List Addr), Good (X.blk s H scope (compEnvC scope cl C X.env) fp) W0 k → DTs (X.blk s H scope (compEnvC scope cl C X.env) fp) ifs tt)
    (he : ∀ (s : Shared) (H : Hp) (C : Addr) (cl : List (Str × Addr)) (fp : List Addr), Good (X.blk s H scope (compEnvC scope cl C X.env) fp) W0 k → DE (X.blk s H scope (compEnvC scope cl C X.env) fp) W0 elt we) (hs : ∀ x, foldedSetIterable iter X.env x = pure x := by intro _; rfl) :
    DE X Wx (.ListComp elt [⟨tg, iter, ifs, 0⟩] scope pos) (dLc w t tt we (own.map (·.2))) :=
  pe_imp (fun σ H Q h => lift_lc hs' h) (pe_lc g.calm g.nd hi ok hg (fun s H C cl fp => ht s H C cl fp g.blk) (fun s H C cl fp => he s H C cl fp g.blk) hs)
theorem ds_setLc (g : Good X Wx k) {i : Nat} {y : Str} {py spos : Pos} {elt tg iter : Expr} {ifs : List Expr} {scope : Scope} {own : List (Str × Nat)} {w : DI} {tt : DT} (hy : X.N[i]? = some y) (hyl : X.env.scope.names.lookup y = some .local)
    (hsw : swapsWith (.ListComp elt [⟨tg, iter, ifs, 0⟩] scope pos) (some (.Name y py)) spos.line X.env = pure true) (t : Tg) (hs' : t.sub (own.map (·.2)) = true) (hi : DIt X Wx tg iter w) (ok : BlkOk X.N X.env.scope scope own)
    (hg : ∀ (s : Shared) (H : Hp) (C : Addr) (cl : List (Str × Addr)) (fp : List Addr), PG (X.blk s H scope (compEnvC scope cl C X.env) fp) tg (t.g X.K))
    (ht : ∀ (s : Shared) (H : Hp) (C : Addr) (cl : List (Str × Addr)) (fp : List Addr), Good (X.blk s H scope (compEnvC scope cl C X.env) fp) W0 k → DTs (X.blk s H scope (compEnvC scope cl C X.env) fp) ifs tt)
    (he : ∀ (s : Shared) (H : Hp) (C : Addr) (cl : List (Str × Addr)) (fp : List Addr), Good (X.blk s H scope (compEnvC scope cl C X.env) fp) W0 k → DE (X.blk s H scope (compEnvC scope cl C X.env) fp) W0 elt we) (hs : ∀ x, foldedSetIterable iter X.env x = pure x := by intro _; rfl) :
    DS X Wx (.Assign [.Name y py] (.ListComp elt [⟨tg, iter, ifs, 0⟩] scope pos) spos) (dAsg (dLc w t tt we (own.map (·.2))) (.nm i)) := by
  refine ps_imp (fun D σ H h => ?_) (ps_setLc (tt := liftT X.K X.mg W0 tt) (te := liftE X.K X.mg W0 we) g.calm g.nd hy hyl hsw hi ok hg (fun s H C cl fp => ht s H C cl fp g.blk) (fun s H C cl fp => he s H C cl fp g.blk) hs)
  exact lift_lc hs' (lift_asg h)
/-! #### calls of defs -/
def dCall (f : DFn) (ws : DA) : DEx := fun Γ O R xe => ws Γ O (fun vs O1 => f vs O1 R fun ex O2 => xe ex Γ O2) xe
variable {f : Addr} {fd : FuncData} {ps : List Str} {df : DFn} {x : Str} {p : Pos} {es : List Expr} {ws : DA}
theorem lift_call {K : Fg} {mg : Str → Option Value} {σ : L2.St} {H : Hp} {Q : VK} (h : liftE K mg Wx (dCall df ws) σ H Q) : tCallS (liftF K mg df) (WE Wx) (liftA K mg Wx ws) σ H Q := by
  obtain ⟨G, α, Γ, O, R, xe, sl, rel, h, p, xp⟩ := h
  refine ⟨G, α, Γ, O, _, xe, sl, rel, h, fun vs O1 h1 us G1 α1 H1 e1 p1 rel1 r1 => ?_, xp⟩
  exact ⟨G1, α1, vs, O1, R, _, r1, rel1, h1, p.mono e1 p1, fun ex O2 h2 cls d G2 α2 H2 e2 p2 rel2 xo => xp _ _ _ h2 _ _ _ _ _ _ (e1.trans e2) (p1.trans p2) rel2 (sl.mono (e1.trans e2) (p1.trans p2)) xo⟩
theorem de_callX {CX : CXT} (g : Good X Wx k) (hp : ∀ σ, PassesAt CX X σ (WE Wx σ)) {j : Nat} (F : FnOk X.prog X.w X.K X.mg X.base CX j f fd ps (liftF X.K X.mg df)) (hj : j ≤ k) (hm : X.mg x = some (.ref f)) (hk : PySem.W.keepIn X.K (.ref f) = true) (hb : Binds X.K fd ps []) (ha : DAs X Wx (e :: es) ws)
    (hg : Gl X x := by rfl) (hdb : (x == ("__debug__" : Str)) = false := by decide) (he : starEach (e :: es) X.env = (false, eval e X.env) :: starEach es X.env := by rfl) (hpl : (backTo pos (starEach es X.env)).any (·.1) = false := by rfl) :
    DE X Wx (.Call (.Name x p) (e :: es) [] pos) (dCall df ws) :=
  pe_imp (fun σ H Q h => lift_call h) (pe_callS F (g.rm.mono hj) hg hm hk hb hp ha hdb he hpl)
theorem de_call (g : Good X Wx k) {j : Nat} (F : FnOk X.prog X.w X.K X.mg X.base (L2N.CX X.prog X.w) j f fd ps (liftF X.K X.mg df)) (hj : j ≤ k) (hm : X.mg x = some (.ref f)) (hk : PySem.W.keepIn X.K (.ref f) = true) (hb : Binds X.K fd ps []) (ha : DAs X Wx (e :: es) ws)
    (hg : Gl X x := by rfl) (hdb : (x == ("__debug__" : Str)) = false := by decide) (he : starEach (e :: es) X.env = (false, eval e X.env) :: starEach es X.env := by rfl) (hpl : (backTo pos (starEach es X.env)).any (·.1) = false := by rfl) :
    DE X Wx (.Call (.Name x p) (e :: es) [] pos) (dCall df ws) :=
  de_callX g (fun σ => L2N.passAt g.tk σ) F hj hm hk hb ha hg hdb he hpl
/-! #### a def -/
/-- the cells that came beside are forgotten: nothing came, or what stands is closed -/
def Fin (n : Nat) (O' : Oh) (k : Oh → Prop) : Prop := (O'.length = n ∧ k O') ∨ (Clo n (O'.take n) = true ∧ k (O'.take n))
/-- the answer: a cell is told as a list that never changes -/
def dAns (n : Nat) (R : DK) (r : W) (O' : Oh) : Prop := match r with
  | .c j => if j < n then Fin n O' (R (.c j)) else match O'[j]? with
    | some (.lst ws) => match datas ws with
      | some ds => Fin n O' (R (.d (.list ds)))
      | none => False
    | _ => False
  | .t xs => (W.t xs).lt n = true ∧ Fin n O' (R (.t xs))
  | _ => Fin n O' (R r)
def startG (N : Nat) (ws : List W) : Gm := ws.map some ++ List.replicate (N - ws.length) none
def dDef (N n : Nat) (b : DSt) : DFn := fun ws O R xe => ws.length = n ∧ (Clo O.length O = true → b ⟨fun _ O' => Fin O.length O' (R (.d .none)), dAns O.length R, fun _ _ => False, fun _ _ => False⟩ (fun ex _ O' => Fin O.length O' (xe ex)) (startG N ws) O)
/-- .. a new cell is the answer -/
def dAnsC (n : Nat) (R : DK) (r : W) (O' : Oh) : Prop := match r with
  | .c j => n ≤ j ∧ Clo n (O'.take n) = true ∧ ∃ c, O'[j]? = some c ∧ c.lt n = true ∧ R (.c n) (O'.take n ++ [c])
  | .t xs => (W.t xs).lt n = true ∧ Fin n O' (R (.t xs))
  | _ => Fin n O' (R r)
def dDefC (N n : Nat) (b : DSt) : DFn := fun ws O R xe => ws.length = n ∧ (Clo O.length O = true → b ⟨fun _ O' => Fin O.length O' (R (.d .none)), dAnsC O.length R, fun _ _ => False, fun _ _ => False⟩ (fun ex _ O' => Fin O.length O' (xe ex)) (startG N ws) O)
theorem sl_start {K : Fg} {G : Hp} {α : Al} {vs : List V} {ws : List W} {N : List Str} (r : RvL K G α vs ws) : Sl K G α (startG N.length ws) (L2.start N vs) := by
  have hl := r.len
  refine ⟨?_, fun i w h => ?_⟩
  · unfold startG L2.start
    rw [List.length_append, List.length_append, List.length_map, List.length_map, List.length_replicate, List.length_replicate, hl]
  · unfold startG at h
    unfold L2.start
    by_cases hi : i < ws.length
    · rw [List.getElem?_append_left (by rw [List.length_map]; exact hi), List.getElem?_map] at h
      cases hw : ws[i]? with
      | none => rw [hw] at h; cases h
      | some w' =>
        rw [hw] at h
        cases h
        obtain ⟨v, hv, rv⟩ := r.get hw
        refine ⟨v, ?_, rv⟩
        rw [List.getElem?_append_left (by rw [List.length_map]; omega), List.getElem?_map, hv]
        rfl
    · rw [List.getElem?_append_right (by rw [List.length_map]; omega)] at h
      have := List.getElem?_eq_some_iff.mp h
      obtain ⟨l, e⟩ := this
      rw [List.getElem_replicate] at e
      cases e
theorem fin_ok {K : Fg} {mg : Str → Option Value} {G' : Hp} {α α' : Al} {O O' : Oh} {H' : Hp} {k : Oh → Prop} (rel : α.as.length = O.length) (p : Pre α α') (rel' : Rel K mg G' α' O' H') (h : Fin O.length O' k) :
    ∃ α'' O'', Pre α α'' ∧ Rel K mg G' α'' O'' H' ∧ k O'' ∧ (∀ v r, Rv K G' α' v r → r.lt O.length = true → Rv K G' α'' v r) := by
  rcases h with ⟨_, h⟩ | ⟨c, h⟩
  · exact ⟨α', O', p, rel', h, fun _ _ r _ => r⟩
  · refine ⟨α'.cut O.length, _, ⟨?_, p.2⟩, rel'.cut c, h, fun v r rv l => rv.cut l⟩
    obtain ⟨t, ht⟩ := p.1
    show α.as <+: α'.as.take O.length
    rw [← ht, ← rel, List.take_left]
    exact List.prefix_refl _
/-- how a def's body gives its promise -/
def MkFn (P : Program) (w : World) (K : Fg) (mg : Str → Option Value) (base : Heap) (CX : CXT) (qual : Str) (st : Stmt) (N ps : List Str) (k : Nat) (f : Addr) (fd : FuncData) : Prop :=
  ∀ (sp : Sp), (∀ vs H Q E, sp vs H Q E → vs.length = ps.length) →
    (∀ (cdv : Value) (A : Around) (outer : List Env) (s : Shared) (H : Hp) (vs : List V) (Q : VK) (E : XK), Room k (A.deeper (envOfC qual (defScope st) s.heap.objs.size f cdv)) → sp vs H Q E →
      ∃ t, PSs (cxOf CX P w K mg base N qual (defScope st) f cdv A outer s H E) (defBody st) t ∧ t { nx := fun _ H' => Q .non H', rt := Q } (L2.start N vs) H) → FnOk P w K mg base CX (k + 1) f fd ps sp
theorem Fun.mk {CX : CXT} {P : Program} {w : World} {K : Fg} {mg : Str → Option Value} {base : Heap} {x qual : Str} {st : Stmt} {f : Addr} {fd : FuncData} {N ps : List Str} {k : Nat} (F : Fun K x qual st f fd) (S : FnScope N ps (defScope st)) : MkFn P w K mg base CX qual st N ps k f fd := by
  intro sp len hbody
  obtain ⟨oc, od, kV, doc, pm, an, cdv, ct, osl, rfl, lk, hcd⟩ := F.ex
  exact fn_of lk hcd S len fun A outer s H vs Q E hr hsp => hbody cdv A outer s H vs Q E hr hsp
theorem def_in {K : Fg} {mg : Str → Option Value} {N ps : List Str} {b : DSt} {vs : List V} {H : Hp} {Q : VK} {E : XK} (h : liftF K mg (dDef N.length ps.length b) vs H Q E) :
    liftS K mg (fun cls d _ H => E cls d H) b { nx := fun _ H' => Q .non H', rt := Q } (L2.start N vs) H := by
  obtain ⟨G, α, ws, O, R, xe, r, rel, ⟨hl, hw⟩, p, xp⟩ := h
  refine ⟨G, α, startG N.length ws, O, _, _, sl_start r, rel, hw rel.clo, ⟨?_, ?_, fun _ _ z => z.elim, fun _ _ z => z.elim⟩, ?_⟩
  · intro Γ' O' h' σ' G' α' H' e' p' rel' _
    obtain ⟨α'', O'', p'', rel'', q, _⟩ := fin_ok rel.len p' rel' h'
    exact p _ _ q _ _ _ _ e' p'' rel'' .non
  · intro r' O' h' v G' α' H' e' p' rel' rv'
    have h' : dAns O.length R r' O' := h'
    have rel' : Rel K mg G' α' O' H' := rel'
    have rv' : Rv K G' α' v r' := rv'
    show Q v H'
    cases r' with
    | d x =>
      obtain ⟨α'', O'', p'', rel'', q, c⟩ := fin_ok rel.len p' rel' (show Fin O.length O' (R (.d x)) from h')
      exact p _ _ q _ _ _ _ e' p'' rel'' (c _ _ rv' rfl)
    | k x =>
      obtain ⟨α'', O'', p'', rel'', q, c⟩ := fin_ok rel.len p' rel' (show Fin O.length O' (R (.k x)) from h')
      exact p _ _ q _ _ _ _ e' p'' rel'' (c _ _ rv' rfl)
    | p x =>
      obtain ⟨α'', O'', p'', rel'', q, c⟩ := fin_ok rel.len p' rel' (show Fin O.length O' (R (.p x)) from h')
      exact p _ _ q _ _ _ _ e' p'' rel'' (c _ _ rv' rfl)
    | q x y =>
      obtain ⟨α'', O'', p'', rel'', q, c⟩ := fin_ok rel.len p' rel' (show Fin O.length O' (R (.q x y)) from h')
      exact p _ _ q _ _ _ _ e' p'' rel'' (c _ _ rv' rfl)
    | o x y z =>
      obtain ⟨α'', O'', p'', rel'', q, c⟩ := fin_ok rel.len p' rel' (show Fin O.length O' (R (.o x y z)) from h')
      exact p _ _ q _ _ _ _ e' p'' rel'' (c _ _ rv' rfl)
    | t x =>
      have h' : (W.t x).lt O.length = true ∧ Fin O.length O' (R (.t x)) := h'
      obtain ⟨α'', O'', p'', rel'', q, c⟩ := fin_ok rel.len p' rel' h'.2
      exact p _ _ q _ _ _ _ e' p'' rel'' (c _ _ rv' h'.1)
    | c j =>
      unfold dAns at h'
      dsimp only at h'
      split at h'
      · next hj =>
        obtain ⟨α'', O'', p'', rel'', q, c⟩ := fin_ok rel.len p' rel' h'
        exact p _ _ q _ _ _ _ e' p'' rel'' (c _ _ rv' (decide_eq_true hj))
      · next hj =>
        split at h'
        · next ws' ej =>
          split at h'
          · next ds ed =>
            obtain ⟨a, ha, rfl⟩ := rv'
            obtain ⟨g0, vs', hH, rl⟩ := rel'.at_ j a _ ha ej
            have rel2 := rel'.freeze ha ej hH g0
            rw [datas_eq ed] at rl
            have rd := rl.toD
            have h2 : Fin O.length (O'.set j .gone) (R (.d (.list ds))) := by
              have hjl : j < O'.length := (List.getElem?_eq_some_iff.mp ej).1
              rcases h' with ⟨z, _⟩ | ⟨z1, z2⟩
              · omega
              · refine .inr ?_
                rw [List.take_set_of_le (by omega)]
                exact ⟨z1, z2⟩
            obtain ⟨α'', O'', p'', rel'', q, c⟩ := fin_ok rel.len p' rel2 h2
            have ee : Ex G' (upd G' a (.lst vs')) := Ex.new g0
            exact p _ _ q _ _ _ _ (e'.trans ee) p'' rel'' (.lst upd_same (rd.mono ee))
          · exact h'.elim
        · exact h'.elim
  · intro ex Γ' O' h' cls d σ' G' α' H' e' p' rel' _ xo
    obtain ⟨α'', O'', p'', rel'', q, _⟩ := fin_ok rel.len p' rel' h'
    exact xp _ _ q _ _ _ _ _ e' p'' rel'' xo
theorem ok_defG {CX : CXT} {P : Program} {w : World} {K : Fg} {mg : Str → Option Value} {base : Heap} {qual : Str} {st : Stmt} {f : Addr} {fd : FuncData} {N ps : List Str} {k : Nat} {b : DSt} (mk : MkFn P w K mg base CX qual st N ps k f fd)
    (hb : ∀ (cdv : Value) (A : Around) (outer : List Env) (s : Shared) (H : Hp) (E : XK), Room k (A.deeper (envOfC qual (defScope st) s.heap.objs.size f cdv)) →
      DSs (cxOf CX P w K mg base N qual (defScope st) f cdv A outer s H E) (fun cls d _ H => E cls d H) (defBody st) b) :
    FnOk P w K mg base CX (k + 1) f fd ps (liftF K mg (dDef N.length ps.length b)) := by
  refine mk _ (fun vs H Q E h => ?_) (fun cdv A outer s H vs Q E hr h => ?_)
  · obtain ⟨G, α, ws, O, R, xe, r, rel, ⟨hl, _⟩, _⟩ := h
    rw [r.len, hl]
  · exact ⟨_, hb cdv A outer s H E hr, def_in h⟩
theorem ok_def {P : Program} {w : World} {K : Fg} {mg : Str → Option Value} {base : Heap} {x qual : Str} {st : Stmt} {f : Addr} {fd : FuncData} {N ps : List Str} {k : Nat} {b : DSt} (F : Fun K x qual st f fd) (S : FnScope N ps (defScope st))
    (hb : ∀ (cdv : Value) (A : Around) (outer : List Env) (s : Shared) (H : Hp) (E : XK), Good (cxOf (L2N.CX P w) P w K mg base N qual (defScope st) f cdv A outer s H E) (fun cls d _ H => E cls d H) k →
      DSs (cxOf (L2N.CX P w) P w K mg base N qual (defScope st) f cdv A outer s H E) (fun cls d _ H => E cls d H) (defBody st) b) :
    FnOk P w K mg base (L2N.CX P w) (k + 1) f fd ps (liftF K mg (dDef N.length ps.length b)) :=
  ok_defG (Fun.mk F S) fun cdv A outer s H E hr => hb cdv A outer s H E ⟨L2N.takes_of rfl rfl rfl rfl, passes_of rfl, hr, rfl, S.nd⟩
/-- of the cells that came, one stays -/
theorem Rel.pick {K : Fg} {mg : Str → Option Value} {G : Hp} {α : Al} {O : Oh} {H : Hp} {n j : Nat} {p : Addr} {c : Cell} (R : Rel K mg G α O H) (hp : α.as[j]? = some p) (hj : n ≤ j) (ej : O[j]? = some c) (l : Clo n (O.take n) = true) (lc : c.lt n = true) : Rel K mg G ((α.cut n).push p) (O.take n ++ [c]) H := by
  have hz : n ≤ α.as.length := Nat.le_trans hj (Nat.le_of_lt (List.getElem?_eq_some_iff.mp hp).1)
  have hm : p ∈ α.as := List.mem_of_getElem? hp
  have sub : ∀ a ∈ ((α.cut n).push p).as, a ∈ α.as := fun a ha => by
    rcases List.mem_append.mp ha with h | h
    · exact List.mem_of_mem_take h
    · rw [List.mem_singleton.mp h]; exact hm
  have key : ∀ (k : Nat) (a : Addr) (c : Cell), α.as[k]? = some a → O[k]? = some c → c.lt n = true → COk K mg G ((α.cut n).push p) H a c := by
    intro k a c h1 h2 hc
    have z := R.at_ k a c h1 h2
    have e : Ex G G := Ex.refl _
    have pp : Pre (α.cut n) ((α.cut n).push p) := Pre.push
    cases c with
    | lst xs => obtain ⟨h0, vs, q, h⟩ := z; exact ⟨h0, vs, q, RvL.mono e pp (h.cut hc)⟩
    | dic xs => obtain ⟨h0, vs, q, h⟩ := z; exact ⟨h0, vs, q, RK.mono e pp (h.cut hc)⟩
    | dct xs => obtain ⟨h0, vs, q, h⟩ := z; exact ⟨h0, vs, q, RK.mono e pp (h.cut hc)⟩
    | ldic od es xs => obtain ⟨h0, q, h⟩ := z; exact ⟨h0, q, RK.mono e pp (h.cut hc)⟩
    | ldct od es xs => obtain ⟨h0, q, h⟩ := z; exact ⟨h0, q, RK.mono e pp (h.cut hc)⟩
    | ins C xs => obtain ⟨h0, Ca, dx, es, q1, q2, q3, q4, q5, h⟩ := z; exact ⟨h0, Ca, dx, es, q1, q2, q3, q4, fun m => q5 (sub _ m), RK.mono e pp (h.cut hc)⟩
    | gone => trivial
  have lt : (α.as.take n).length = n := by rw [List.length_take]; omega
  have lt' : (O.take n).length = n := by rw [List.length_take, ← R.len]; omega
  refine ⟨R.ex, ?_, ?_, fun a ha => R.liv a (sub a ha), fun k a d h1 h2 => ?_, fun q hq => ?_⟩
  · show (α.as.take n ++ [p]).length = _
    rw [List.length_append, List.length_append, lt, lt']; rfl
  · show (α.as.take n ++ [p]).Nodup
    rw [List.nodup_append]
    refine ⟨R.nd.sublist (List.take_sublist _ _), by simp, fun a ha b hb => ?_⟩
    rw [List.mem_singleton] at hb
    subst hb
    intro z
    subst z
    obtain ⟨i, hi, ei⟩ := List.getElem_of_mem ha
    rw [List.getElem_take] at ei
    rw [lt] at hi
    have e2 : α.as[i]? = α.as[j]? := by rw [hp, ← ei]; exact List.getElem?_eq_getElem _
    have := (List.getElem?_inj (i := i) (by omega) R.nd).mp e2
    omega
  · have h1 : (α.as.take n ++ [p])[k]? = some a := h1
    by_cases hk : k < n
    · rw [List.getElem?_append_left (by omega), List.getElem?_take, if_pos hk] at h1 h2
      refine key k a d h1 h2 ?_
      unfold Clo at l
      rw [List.all_eq_true] at l
      exact l d (List.mem_of_getElem? (show (O.take n)[k]? = some d by rw [List.getElem?_take, if_pos hk]; exact h2))
    · by_cases hk2 : k = n
      · subst hk2
        rw [List.getElem?_append_right (by omega), lt, Nat.sub_self] at h1
        rw [List.getElem?_append_right (by omega), lt', Nat.sub_self] at h2
        cases h1
        cases h2
        exact key j _ _ hp ej lc
      · rw [List.getElem?_eq_none (by rw [List.length_append, lt]; simp; omega)] at h1
        cases h1
  · obtain ⟨q1, q2, q3, q4⟩ := R.hd q hq
    exact ⟨q1, q2, fun z => q3 (sub _ z), q4⟩
theorem def_inC {K : Fg} {mg : Str → Option Value} {N ps : List Str} {b : DSt} {vs : List V} {H : Hp} {Q : VK} {E : XK} (h : liftF K mg (dDefC N.length ps.length b) vs H Q E) :
    liftS K mg (fun cls d _ H => E cls d H) b { nx := fun _ H' => Q .non H', rt := Q } (L2.start N vs) H := by
  obtain ⟨G, α, ws, O, R, xe, r, rel, ⟨hl, hw⟩, p, xp⟩ := h
  refine ⟨G, α, startG N.length ws, O, _, _, sl_start r, rel, hw rel.clo, ⟨?_, ?_, fun _ _ z => z.elim, fun _ _ z => z.elim⟩, ?_⟩
  · intro Γ' O' h' σ' G' α' H' e' p' rel' _
    obtain ⟨α'', O'', p'', rel'', q, _⟩ := fin_ok rel.len p' rel' h'
    exact p _ _ q _ _ _ _ e' p'' rel'' .non
  · intro r' O' h' v G' α' H' e' p' rel' rv'
    have h' : dAnsC O.length R r' O' := h'
    have rel' : Rel K mg G' α' O' H' := rel'
    have rv' : Rv K G' α' v r' := rv'
    show Q v H'
    cases r' with
    | d x =>
      obtain ⟨α'', O'', p'', rel'', q, c⟩ := fin_ok rel.len p' rel' (show Fin O.length O' (R (.d x)) from h')
      exact p _ _ q _ _ _ _ e' p'' rel'' (c _ _ rv' rfl)
    | k x =>
      obtain ⟨α'', O'', p'', rel'', q, c⟩ := fin_ok rel.len p' rel' (show Fin O.length O' (R (.k x)) from h')
      exact p _ _ q _ _ _ _ e' p'' rel'' (c _ _ rv' rfl)
    | p x =>
      obtain ⟨α'', O'', p'', rel'', q, c⟩ := fin_ok rel.len p' rel' (show Fin O.length O' (R (.p x)) from h')
      exact p _ _ q _ _ _ _ e' p'' rel'' (c _ _ rv' rfl)
    | q x y =>
      obtain ⟨α'', O'', p'', rel'', q, c⟩ := fin_ok rel.len p' rel' (show Fin O.length O' (R (.q x y)) from h')
      exact p _ _ q _ _ _ _ e' p'' rel'' (c _ _ rv' rfl)
    | o x y z =>
      obtain ⟨α'', O'', p'', rel'', q, c⟩ := fin_ok rel.len p' rel' (show Fin O.length O' (R (.o x y z)) from h')
      exact p _ _ q _ _ _ _ e' p'' rel'' (c _ _ rv' rfl)
    | t x =>
      have h' : (W.t x).lt O.length = true ∧ Fin O.length O' (R (.t x)) := h'
      obtain ⟨α'', O'', p'', rel'', q, c⟩ := fin_ok rel.len p' rel' h'.2
      exact p _ _ q _ _ _ _ e' p'' rel'' (c _ _ rv' h'.1)
    | c j =>
      obtain ⟨hj, hl, c, ec, lc, q⟩ := h'
      obtain ⟨a, ha, rfl⟩ := rv'
      have rel2 := rel'.pick ha hj ec hl lc
      obtain ⟨t, ht⟩ := p'.1
      have lt : (α'.as.take O.length) = α.as := by rw [← ht, ← rel.len, List.take_left]
      refine p _ _ q _ _ ((α'.cut O.length).push a) _ e' ⟨?_, p'.2⟩ rel2 ⟨a, ?_, rfl⟩
      · show α.as <+: α'.as.take O.length ++ [a]
        rw [lt]
        exact List.prefix_append _ _
      · show (α'.as.take O.length ++ [a])[O.length]? = some a
        rw [lt, List.getElem?_append_right (by rw [rel.len]; exact Nat.le_refl _), rel.len, Nat.sub_self]
        rfl
  · intro ex Γ' O' h' cls d σ' G' α' H' e' p' rel' _ xo
    obtain ⟨α'', O'', p'', rel'', q, _⟩ := fin_ok rel.len p' rel' h'
    exact xp _ _ q _ _ _ _ _ e' p'' rel'' xo
theorem ok_defCG {CX : CXT} {P : Program} {w : World} {K : Fg} {mg : Str → Option Value} {base : Heap} {qual : Str} {st : Stmt} {f : Addr} {fd : FuncData} {N ps : List Str} {k : Nat} {b : DSt} (mk : MkFn P w K mg base CX qual st N ps k f fd)
    (hb : ∀ (cdv : Value) (A : Around) (outer : List Env) (s : Shared) (H : Hp) (E : XK), Room k (A.deeper (envOfC qual (defScope st) s.heap.objs.size f cdv)) →
      DSs (cxOf CX P w K mg base N qual (defScope st) f cdv A outer s H E) (fun cls d _ H => E cls d H) (defBody st) b) :
    FnOk P w K mg base CX (k + 1) f fd ps (liftF K mg (dDefC N.length ps.length b)) := by
  refine mk _ (fun vs H Q E h => ?_) (fun cdv A outer s H vs Q E hr h => ?_)
  · obtain ⟨G, α, ws, O, R, xe, r, rel, ⟨hl, _⟩, _⟩ := h
    rw [r.len, hl]
  · exact ⟨_, hb cdv A outer s H E hr, def_inC h⟩
theorem ok_defC {P : Program} {w : World} {K : Fg} {mg : Str → Option Value} {base : Heap} {x qual : Str} {st : Stmt} {f : Addr} {fd : FuncData} {N ps : List Str} {k : Nat} {b : DSt} (F : Fun K x qual st f fd) (S : FnScope N ps (defScope st))
    (hb : ∀ (cdv : Value) (A : Around) (outer : List Env) (s : Shared) (H : Hp) (E : XK), Good (cxOf (L2N.CX P w) P w K mg base N qual (defScope st) f cdv A outer s H E) (fun cls d _ H => E cls d H) k →
      DSs (cxOf (L2N.CX P w) P w K mg base N qual (defScope st) f cdv A outer s H E) (fun cls d _ H => E cls d H) (defBody st) b) :
    FnOk P w K mg base (L2N.CX P w) (k + 1) f fd ps (liftF K mg (dDefC N.length ps.length b)) :=
  ok_defCG (Fun.mk F S) fun cdv A outer s H E hr => hb cdv A outer s H E ⟨L2N.takes_of rfl rfl rfl rfl, passes_of rfl, hr, rfl, S.nd⟩
end
end Dl
namespace Dl
open PySem PySem.Spec PyProof.Rows L2
/-! #### tuples known to have no dict of their own -/
section
variable {X : Cx}
def rCatF (K : Fg) : R2 := fun x y H Q => ∃ a b xs ys, x = .ref a ∧ y = .ref b ∧ SqT K H a xs ∧ SqT K H b ys ∧ xs.length + ys.length ≤ sizeLine ∧
  (xs = [] → Q (.ref b) H) ∧ (xs ≠ [] → ys = [] → Q (.ref a) H) ∧ (xs ≠ [] → ys ≠ [] → ∀ p ob, H p = none → ob.dict = none → Q (.ref p) (upd H p (.frz ob (.tup (xs ++ ys)))))
theorem op_catF : OpR X (binaryOp .Add) (rCatF X.K) := by
  intro pins s σ H x y v u Q I rx ry h
  obtain ⟨a, b, xs, ys, rfl, rfl, ha, hb, hz, q0, q1, q2⟩ := h
  cases rx
  cases ry
  obtain ⟨its, r1, p1, _⟩ := I.tuple ha
  obtain ⟨its2, r2, p2, _⟩ := I.tuple hb
  by_cases hx : xs = []
  · subst hx
    cases r1
    exact L2.cat_tup0 p1 p2 ⟨.ref b, H, I, rfl, q0 rfl⟩
  · refine HT.cat_tup p1 p2 (fun z => hx (r1.nil_iff.mp z)) (fun z => ⟨.ref a, H, I, rfl, q1 hx (r2.nil_iff.mp z)⟩) (fun z => ?_) (by rw [← r1.length, ← r2.length]; exact hz)
    refine ⟨.ref s.heap.objs.size, _, I.laid (t' := s.toks) (o := .frz { cls := .type "tuple", data := .seq (its ++ its2).toArray } (.tup (xs ++ ys))) (fun b ob q => Heap.get?_push_of_some _ q) (Nat.le_refl _) ?_, rfl, q2 hx (fun w => z (r2.nil_iff.mpr w)) _ _ (I.hok.fresh (Nat.le_refl _)) rfl⟩
    exact ⟨Heap.get?_push_size _ rfl, by rw [List.length_append]; exact hz, _, r1.append r2, IsTup.new _ _⟩
def rTupOf (K : Fg) : List V → Hp → VK → Prop := fun xs H Q => ∃ p ys, xs = [.ref p] ∧ ((SqL K H p ys ∧ ∀ l ob, H l = none → ob.dict = none → Q (.ref l) (upd H l (.frz ob (.tup ys)))) ∨ (SqT K H p ys ∧ Q (.ref p) H))
theorem call_tupOf : CallR X (.type "tuple") (rTupOf X.K) := by
  intro pins s σ H xs us Q I r h
  obtain ⟨p, ys, rfl, h⟩ := h
  obtain ⟨u, rfl, rx⟩ := vals1 r
  cases rx
  rcases h with ⟨hq, q⟩ | ⟨hq, q⟩
  · obtain ⟨its, r', pl, hz⟩ := I.list hq
    have hlen := r'.length
    refine call_tuple_list pl.isList (fun h' kp => ?_) (by simp only [List.size_toArray] <;> omega)
    have I1 : Inv X pins σ H { s with heap := h' } := I.kept (t' := s.toks) kp
    have I2 : Inv X pins σ (upd H h'.objs.size (.frz { cls := .type "tuple", data := .seq its.toArray } (.tup ys))) { s with heap := h'.push { cls := .type "tuple", data := .seq its.toArray } } :=
      I1.laid (t' := s.toks) (fun b o e => Heap.get?_push_of_some _ e) (Nat.le_refl _) (show ObjOk X.prog X.w _ _ _ (.frz _ (.tup ys)) from ⟨Heap.get?_push_size _ rfl, hz, its, r', IsTup.new _ _⟩)
    exact ⟨.ref h'.objs.size, _, I2, rfl, q _ _ (I1.hok.fresh (Nat.le_refl _)) rfl⟩
  · obtain ⟨its, r', pl, hz⟩ := I.tuple hq
    exact call_tuple_same pl ⟨.ref p, H, I, rfl, q⟩
def rSlF (K : Fg) : V → Option Int → Option Int → Hp → VK → Prop := fun x lo hi H Q => ∃ a xs, x = .ref a ∧ SqT K H a xs ∧
  (HT.sIx xs.length 0 lo = 0 ∧ HT.sIx xs.length xs.length hi = xs.length → Q (.ref a) H) ∧ (¬ (HT.sIx xs.length 0 lo = 0 ∧ HT.sIx xs.length xs.length hi = xs.length) → ∀ p ob, H p = none → ob.dict = none → Q (.ref p) (upd H p (.frz ob (.tup (cutV xs lo hi)))))
theorem sl_tupF : SlR X (rSlF X.K) := by
  intro pins s σ H x v vl vu lo hi sl Q I rx hs pl pu h
  obtain ⟨a, xs, rfl, hx, q1, q2⟩ := h
  cases rx
  obtain ⟨its, r, ht, hz⟩ := I.tuple hx
  have hlen : its.toArray.size = xs.length := by rw [List.size_toArray]; exact r.length.symm
  refine ⟨"tuple", _, PyProof.Rows.slot_tuple_getitem.lookup, ht.typeIs, ?_⟩
  by_cases hw : HT.sIx xs.length 0 lo = 0 ∧ HT.sIx xs.length xs.length hi = xs.length
  · exact L2.getItem_tuple_whole ht hs pl pu (by rw [hlen]; exact hw) ⟨.ref a, H, I, rfl, q1 hw⟩
  · refine HT.getItem_tuple_cut ht hs pl pu (by rw [hlen]; exact hw) ?_ (by rw [hlen]; exact hz)
    rw [hlen]
    have ok : ObjOk X.prog X.w (upd H s.heap.objs.size (.frz { cls := .type "tuple", data := .seq ((its.toArray.toList.drop (HT.sIx xs.length 0 lo)).take (HT.sIx xs.length xs.length hi - HT.sIx xs.length 0 lo)).toArray } (.tup (cutV xs lo hi)))) (s.heap.push { cls := .type "tuple", data := .seq ((its.toArray.toList.drop (HT.sIx xs.length 0 lo)).take (HT.sIx xs.length xs.length hi - HT.sIx xs.length 0 lo)).toArray }) s.heap.objs.size (.frz { cls := .type "tuple", data := .seq ((its.toArray.toList.drop (HT.sIx xs.length 0 lo)).take (HT.sIx xs.length xs.length hi - HT.sIx xs.length 0 lo)).toArray } (.tup (cutV xs lo hi))) :=
      ⟨Heap.get?_push_size _ rfl, Nat.le_trans (cutV_length xs lo hi) hz, _, (r.drop (HT.sIx xs.length 0 lo)).take (HT.sIx xs.length xs.length hi - HT.sIx xs.length 0 lo), IsTup.new _ _⟩
    exact ⟨.ref s.heap.objs.size, _, I.laid (t' := s.toks) (fun b ob q => Heap.get?_push_of_some _ q) (Nat.le_refl _) ok, rfl, q2 hw _ _ (I.hok.fresh (Nat.le_refl _)) rfl⟩
end
/-! #### what stands as a list, as a list or tuple -/
def asL : W → Oh → Option (List W)
  | .d (.list ds), _ => some (ds.map W.d)
  | .c j, O => match O[j]? with
    | some (.lst ws) => some ws
    | _ => none
  | _, _ => none
def asS : W → Oh → Option (List W)
  | .d (.list ds), _ => some (ds.map W.d)
  | .d (.tuple ds), _ => some (ds.map W.d)
  | .d (.dict [(.none, .list ds)]), _ => some (ds.map W.d)
  | .p ds, _ => some (ds.map W.d)
  | .k ks, _ => some (ks.map fun x => W.d (keyD x))
  | .t xs, _ => some (xs.map tiW)
  | .c j, O => match O[j]? with
    | some (.lst ws) => some ws
    | _ => none
  | _, _ => none
section
variable {K : Fg} {mg : Str → Option Value} {G : Hp} {α : Al} {O : Oh} {H : Hp}
theorem asL_ok {v : V} {x : W} {ws : List W} (rel : Rel K mg G α O H) (r : Rv K G α v x) (h : asL x O = some ws) : ∃ a vs, v = .ref a ∧ H a = some (.lst vs) ∧ RvL K G α vs ws := by
  unfold asL at h
  split at h
  · cases h
    cases r with
    | lst hs ha => exact ⟨_, _, rfl, rel.ex _ _ hs, RvL.ofD ha⟩
  · next O' j =>
    split at h
    · next ws' e =>
      cases h
      obtain ⟨a, ha, rfl⟩ := r
      obtain ⟨_, vs, hH, rl⟩ := rel.at_ j a _ ha e
      exact ⟨a, vs, rfl, hH, rl⟩
    · cases h
  · cases h
theorem asS_ok {v : V} {x : W} {ws : List W} (rel : Rel K mg G α O H) (r : Rv K G α v x) (h : asS x O = some ws) : ∃ a vs, v = .ref a ∧ (SqL K H a vs ∨ SqT K H a vs) ∧ RvL K G α vs ws := by
  unfold asS at h
  split at h
  · cases h
    cases r with
    | lst hs ha => exact ⟨_, _, rfl, .inl (SqL.of (rel.ex _ _ hs)), RvL.ofD ha⟩
  · cases h
    cases r with
    | tup hs td ha => exact ⟨_, _, rfl, .inr (rel.ex.sqT hs), RvL.ofD ha⟩
  · cases h
    cases r with
    | scr ns hs => exact ⟨_, _, rfl, .inl (rel.ex.sqL hs), RvL.ofD (RpL.ints ns)⟩
    | dk hg hk =>
      cases hk with
      | @cons k _ _ _ _ _ e _ _ _ => cases k <;> cases e
  · cases h
    obtain ⟨a, vs, rfl, hs, ha⟩ := r
    exact ⟨_, _, rfl, .inr (rel.ex.sqT hs), RvL.ofD ha⟩
  · cases h
    obtain ⟨ok, a, rfl, hs⟩ := r
    refine ⟨a, _, rfl, .inr (SqT.of (rel.ex _ _ hs)), ?_⟩
    have z := RvL.ofD (α := α) (RpL.keys (K := K) (G := G) ok)
    rwa [List.map_map] at z
  · cases h
    obtain ⟨a, vs, rfl, hs, hr⟩ := r
    exact ⟨a, vs, rfl, .inr (SqT.of (rel.ex _ _ hs)), RiL.rv hr⟩
  · next O' j =>
    split at h
    · next ws' e =>
      cases h
      obtain ⟨a, ha, rfl⟩ := r
      obtain ⟨_, vs, hH, rl⟩ := rel.at_ j a _ ha e
      exact ⟨a, vs, rfl, .inl (SqL.of hH), rl⟩
    · cases h
  · cases h
end
/-- what may be laid as data: x or a cell's list -/
def asD : W → Oh → Option PyData
  | .d x, _ => some x
  | .c j, O => match O[j]? with
    | some (.lst ws) => match datas ws with
      | some ds => some (.list ds)
      | none => none
    | _ => none
  | .k ks, _ => some (.tuple (ks.map keyD))
  | .p ds, _ => some (.tuple ds)
  | _, _ => none
/-- data without dicts, not too deep -/
def shp : Nat → PyData → Bool
  | _, .none => true
  | _, .bool _ => true
  | _, .int _ => true
  | _, .str _ => true
  | n + 1, .list ds => ds.all (shp n)
  | n + 1, .tuple ds => ds.all (shp n)
  | _, _ => false
section
variable {K : Fg} {mg : Str → Option Value} {G : Hp} {α : Al} {O : Oh} {H : Hp}
mutual
theorem shp_depth : ∀ (n : Nat) (d : PyData), shp n d = true → d.depth ≤ n
  | n, .none, _ => by simp [PyData.depth]
  | n, .bool _, _ => by simp [PyData.depth]
  | n, .int _, _ => by simp [PyData.depth]
  | n, .str _, _ => by simp [PyData.depth]
  | 0, .list ds, h => by cases h
  | n + 1, .list ds, h => by
    have := shp_depths n ds h
    simp only [PyData.depth]
    omega
  | 0, .tuple ds, h => by cases h
  | n + 1, .tuple ds, h => by
    have := shp_depths n ds h
    simp only [PyData.depth]
    omega
  | 0, .dict _, h => by cases h
  | n + 1, .dict _, h => by cases h
theorem shp_depths : ∀ (n : Nat) (ds : List PyData), ds.all (shp n) = true → PyData.depthAll ds ≤ n
  | n, [], _ => by simp [PyData.depthAll]
  | n, d :: ds, h => by
    rw [List.all_cons, Bool.and_eq_true] at h
    have h1 := shp_depth n d h.1
    have h2 := shp_depths n ds h.2
    simp only [PyData.depthAll]
    omega
end
mutual
theorem rp_lay : ∀ (n : Nat) (d : PyData) {v : V}, Rp K G v d → shp n d = true → d.canLay0 = true
  | n, .none, _, _, _ => by simp [PyData.canLay0]
  | n, .bool _, _, _, _ => by simp [PyData.canLay0]
  | n, .int _, _, _, _ => by simp [PyData.canLay0]
  | n, .str _, _, r, _ => by cases r with | str _ h => simpa [PyData.canLay0] using h
  | 0, .list ds, _, _, h => by cases h
  | n + 1, .list ds, _, r, h => by
    cases r with | lst hs ha => simpa only [PyData.canLay0] using rp_lays n ds ha h
  | 0, .tuple ds, _, _, h => by cases h
  | n + 1, .tuple ds, _, r, h => by
    cases r with | tup hs td ha => simpa only [PyData.canLay0] using rp_lays n ds ha h
  | 0, .dict _, _, _, h => by cases h
  | n + 1, .dict _, _, _, h => by cases h
theorem rp_lays : ∀ (n : Nat) (ds : List PyData) {vs : List V}, RpL K G vs ds → ds.all (shp n) = true → PyData.canLayAll0 ds = true
  | n, [], _, _, _ => by simp [PyData.canLayAll0]
  | n, d :: ds, _, r, h => by
    rw [List.all_cons, Bool.and_eq_true] at h
    cases r with
    | cons r1 r2 =>
      simp only [PyData.canLayAll0, Bool.and_eq_true]
      exact ⟨rp_lay n d r1 h.1, rp_lays n ds r2 h.2⟩
end
mutual
theorem rp_dp : ∀ (n : Nat) (d : PyData) {v : V}, Ex G H → Rp K G v d → shp n d = true → Dp K H v d
  | n, .none, _, _, r, _ => by cases r; exact .non
  | n, .bool _, _, _, r, _ => by cases r; exact .bl _
  | n, .int _, _, _, r, _ => by cases r; exact .int _
  | n, .str _, _, _, r, _ => by cases r; exact .str _
  | 0, .list ds, _, _, _, h => by cases h
  | n + 1, .list ds, _, e, r, h => by
    cases r with | lst hs ha => exact .lst (SqL.of (e _ _ hs)) (rp_dps n ds e ha h)
  | 0, .tuple ds, _, _, _, h => by cases h
  | n + 1, .tuple ds, _, e, r, h => by
    cases r with | tup hs td ha => exact .tup (e.sqT hs) (rp_dps n ds e ha h)
  | 0, .dict _, _, _, _, h => by cases h
  | n + 1, .dict _, _, _, _, h => by cases h
theorem rp_dps : ∀ (n : Nat) (ds : List PyData) {vs : List V}, Ex G H → RpL K G vs ds → ds.all (shp n) = true → DpAll K H vs ds
  | n, [], _, _, r, _ => by cases r; exact .nil
  | n, d :: ds, _, e, r, h => by
    rw [List.all_cons, Bool.and_eq_true] at h
    cases r with
    | cons r1 r2 => exact .cons (rp_dp n d e r1 h.1) (rp_dps n ds e r2 h.2)
end
theorem shp_keys (n : Nat) : ∀ ks : List Key, (ks.map keyD).all (shp n) = true
  | [] => rfl
  | .inl i :: r => by rw [List.map_cons, List.all_cons, shp_keys n r]; cases n <;> rfl
  | .inr i :: r => by rw [List.map_cons, List.all_cons, shp_keys n r]; cases n <;> rfl
theorem shaped_of {n : Nat} {d : PyData} (hn : n ≤ 64) (h1 : d.canLay0 = true) (h2 : shp n d = true) : SeqAt.shaped d = true := by
  unfold SeqAt.shaped
  rw [h1, Bool.true_and]
  exact decide_eq_true (Nat.le_trans (shp_depth n d h2) hn)
theorem asD_ok {v : V} {x : W} {d : PyData} (rel : Rel K mg G α O H) (r : Rv K G α v x) (h : asD x O = some d) (hs : shp 40 d = true) : Dp K H v d ∧ SeqAt.shaped d = true := by
  unfold asD at h
  split at h
  · cases h
    exact ⟨rp_dp 40 _ rel.ex r hs, shaped_of (n := 40) (by decide) (rp_lay 40 _ r hs) hs⟩
  · next O' j =>
    split at h
    · next ws e =>
      split at h
      · next ds ed =>
        cases h
        obtain ⟨a, ha, rfl⟩ := r
        obtain ⟨_, vs, hH, rl⟩ := rel.at_ j a _ ha e
        rw [datas_eq ed] at rl
        have rd := rl.toD
        have hs' : ds.all (shp 39) = true := hs
        exact ⟨.lst (SqL.of hH) (rp_dps 39 _ rel.ex rd hs'), shaped_of (n := 40) (by decide) (by simpa only [PyData.canLay0] using rp_lays 39 ds rd hs') hs⟩
      · cases h
    · cases h
  · next O' ks =>
    cases h
    obtain ⟨ok, a, rfl, ht⟩ := r
    have rd := RpL.keys (K := K) (G := G) ok
    exact ⟨.tup (rel.ex.sqT (SqT.of ht)) (rp_dps 39 _ rel.ex rd (shp_keys 39 ks)), shaped_of (n := 40) (by decide) (by simpa only [PyData.canLay0] using rp_lays 39 _ rd (shp_keys 39 ks)) hs⟩
  · next O' ds =>
    cases h
    obtain ⟨a, vs, rfl, ht, rd⟩ := r
    have hs' : ds.all (shp 39) = true := hs
    exact ⟨.tup (rel.ex.sqT ht) (rp_dps 39 _ rel.ex rd hs'), shaped_of (n := 40) (by decide) (by simpa only [PyData.canLay0] using rp_lays 39 ds rd hs') hs⟩
  · cases h
end
/-! #### operators -/
theorem or_op {X : Cx} {f : Value → Value → Sem Value} {r r' : R2} (h : OpR X f r) (h' : OpR X f r') : OpR X f (fun x y H Q => r x y H Q ∨ r' x y H Q) := by
  intro pins s σ H x y v u Q I rx ry q
  rcases q with q | q
  · exact h pins s σ H x y v u Q I rx ry q
  · exact h' pins s σ H x y v u Q I rx ry q
def dAdd : D2 := fun x y O R => match x, y with
  | .d (.int i), .d (.int j) => R (.d (.int (i + j))) O
  | .d (.str i), .d (.str j) => i.length + j.length ≤ 1000000 ∧ R (.d (.str (i ++ j))) O
  | .d (.tuple xs), .d (.tuple ys) => xs.length + ys.length ≤ 1000000 ∧ R (.d (.tuple (xs ++ ys))) O
  | .d (.list xs), .d (.list ys) => xs.length + ys.length ≤ 1000000 ∧ R (.d (.list (xs ++ ys))) O
  | x, y => match asL x O, asL y O with
    | some xs, some ys => match datas xs, datas ys with
      | some ds, some es => ds.length + es.length ≤ 1000000 ∧ R (.d (.list (ds ++ es))) O
      | _, _ => False
    | _, _ => False
def rAdd4 (K : Fg) : R2 := fun x y H Q => (∃ i j, x = .int i ∧ y = .int j ∧ Q (.int (i + j)) H) ∨ (∃ i j, x = .str i ∧ y = .str j ∧ i.length + j.length ≤ sizeLine ∧ Q (.str (i ++ j)) H) ∨ rCatF K x y H Q ∨ rCat x y H Q
theorem op_add4 {X : Cx} : OpR X (binaryOp .Add) (rAdd4 X.K) := or_op op_add (or_op op_add_str (or_op op_catF op_cat))
theorem strOk_append {a b : Str} (ha : PyData.strOk a = true) (hb : PyData.strOk b = true) : PyData.strOk (a ++ b) = true := by
  unfold PyData.strOk at ha hb ⊢
  have e : (a ++ b).cps = a.cps ++ b.cps := rfl
  rw [e, Array.all_append, ha, hb]
  rfl
section
variable {K : Fg} {mg : Str → Option Value}
theorem cat_ok {G : Hp} {α : Al} {O : Oh} {H : Hp} {x y : W} {u v : V} {ds es : List PyData} {R : DK} {Q : VK} (rel : Rel K mg G α O H) {xs ys : List W} (r1 : Rv K G α u x) (r2 : Rv K G α v y) (h1 : asL x O = some xs) (h2 : asL y O = some ys)
    (e1 : datas xs = some ds) (e2 : datas ys = some es) (hz : ds.length + es.length ≤ 1000000) (q : R (.d (.list (ds ++ es))) O) (p : Post K mg G α R Q) : rCat u v H Q := by
  obtain ⟨a, vs, rfl, ha, ra⟩ := asL_ok rel r1 h1
  obtain ⟨b, us, rfl, hb, rb⟩ := asL_ok rel r2 h2
  rw [datas_eq e1] at ra
  rw [datas_eq e2] at rb
  have la := ra.toD.length
  have lb := rb.toD.length
  refine ⟨a, b, vs, us, rfl, rfl, ha, hb, by rw [la, lb]; exact szl hz, fun l hl => ?_⟩
  have ge := rel.ex.free hl
  exact p.lay q rel hl (.lst upd_same ((ra.toD.append rb.toD).mono (Ex.new ge)))
theorem s_add : OpS K mg dAdd (rAdd4 K) := by
  intro G α O H x y u v R Q rel r1 r2 h p
  unfold dAdd at h
  split at h
  · cases r1
    cases r2
    exact .inl ⟨_, _, rfl, rfl, p.here h rel (.int _)⟩
  · cases r1 with
    | str _ o1 =>
      cases r2 with
      | str _ o2 => exact .inr (.inl ⟨_, _, rfl, rfl, szl h.1, p.here h.2 rel (.str _ (strOk_append o1 o2))⟩)
  · cases r1 with
    | tup h1 t1 a1 =>
      cases r2 with
      | tup h2 t2 a2 =>
        have l1 := a1.length
        have l2 := a2.length
        refine .inr (.inr (.inl ⟨_, _, _, _, rfl, rfl, rel.ex.sqT h1, rel.ex.sqT h2, by rw [l1, l2]; exact szl h.1, fun z => ?_, fun _ z => ?_, fun _ _ l ob hl hd => p.layF h.2 rel hl hd (a1.append a2)⟩))
        · subst z
          cases a1
          exact p.here h.2 rel (.tup h2 t2 a2)
        · subst z
          cases a2
          have h3 := h.2
          rw [List.append_nil] at h3
          exact p.here h3 rel (.tup h1 t1 a1)
  · next xs ys => exact .inr (.inr (.inr (cat_ok rel r1 r2 (xs := xs.map W.d) (ys := ys.map W.d) rfl rfl (datas_map _) (datas_map _) h.1 h.2 p)))
  · split at h
    · next xs ys e1 e2 =>
      split at h
      · next ds es d1 d2 => exact .inr (.inr (.inr (cat_ok rel r1 r2 e1 e2 d1 d2 h.1 h.2 p)))
      · exact h.elim
    · exact h.elim
/-! ints -/
def dI2 (C : Int → Int → Prop) (g : Int → Int → PyData) : D2 := fun x y O R => match x, y with
  | .d (.int i), .d (.int j) => C i j ∧ R (.d (g i j)) O
  | _, _ => False
def dI20 (g : Int → Int → PyData) : D2 := fun x y O R => match x, y with
  | .d (.int i), .d (.int j) => R (.d (g i j)) O
  | _, _ => False
theorem s_I2 {C : Int → Int → Prop} {g : Int → Int → PyData} {gv : Int → Int → V} (hg : ∀ i j G, Rp K G (gv i j) (g i j)) : OpS K mg (dI2 C g) (rI C gv) := by
  intro G α O H x y u v R Q rel r1 r2 h p
  unfold dI2 at h
  split at h
  · cases r1
    cases r2
    exact ⟨_, _, rfl, rfl, h.1, p.here h.2 rel (hg _ _ _)⟩
  · exact h.elim
theorem s_I20 {g : Int → Int → PyData} {gv : Int → Int → V} (hg : ∀ i j G, Rp K G (gv i j) (g i j)) : OpS K mg (dI20 g) (rI0 gv) := by
  intro G α O H x y u v R Q rel r1 r2 h p
  unfold dI20 at h
  split at h
  · cases r1
    cases r2
    exact ⟨_, _, rfl, rfl, p.here h rel (hg _ _ _)⟩
  · exact h.elim
abbrev dSub : D2 := dI20 fun i j => .int (i - j)
theorem s_sub : OpS K mg dSub (rI0 fun i j => .int (i - j)) := s_I20 fun _ _ _ => .int _
abbrev dMul : D2 := dI2 CMul fun i j => .int (i * j)
theorem s_mul : OpS K mg dMul (rI CMul fun i j => .int (i * j)) := s_I2 fun _ _ _ => .int _
abbrev dMod : D2 := dI2 (fun _ j => 0 < j) fun i j => .int (i % j)
theorem s_mod : OpS K mg dMod (rI (fun _ j => 0 < j) fun i j => .int (i % j)) := s_I2 fun _ _ _ => .int _
abbrev dDiv : D2 := dI2 CDivW fun i j => .int (i / j)
theorem s_div : OpS K mg dDiv (rI CDivW fun i j => .int (i / j)) := s_I2 fun _ _ _ => .int _
abbrev dPow : D2 := dI2 CPow fun i j => .int (i ^ j.toNat)
theorem s_pow : OpS K mg dPow (rI CPow fun i j => .int (i ^ j.toNat)) := s_I2 fun _ _ _ => .int _
/-! == and != -/
def dEq : D2 := fun x y O R => match asD x O, asD y O with
  | some d, some e => shp 40 d = true ∧ shp 40 e = true ∧ R (.d (.bool (PyData.eqv d e))) O
  | _, _ => False
def dNe : D2 := fun x y O R => match asD x O, asD y O with
  | some d, some e => shp 40 d = true ∧ shp 40 e = true ∧ R (.d (.bool (!PyData.eqv d e))) O
  | _, _ => False
theorem s_eq : OpS K mg dEq (rEqD K) := by
  intro G α O H x y u v R Q rel r1 r2 h p
  unfold dEq at h
  split at h
  · next d e e1 e2 =>
    obtain ⟨d1, s1⟩ := asD_ok rel r1 e1 h.1
    obtain ⟨d2, s2⟩ := asD_ok rel r2 e2 h.2.1
    exact ⟨d, e, d1, d2, s1, s2, p.here h.2.2 rel (.bl _)⟩
  · exact h.elim
theorem s_ne : OpS K mg dNe (rNeD K) := by
  intro G α O H x y u v R Q rel r1 r2 h p
  unfold dNe at h
  split at h
  · next d e e1 e2 =>
    obtain ⟨d1, s1⟩ := asD_ok rel r1 e1 h.1
    obtain ⟨d2, s2⟩ := asD_ok rel r2 e2 h.2.1
    exact ⟨d, e, d1, d2, s1, s2, p.here h.2.2 rel (.bl _)⟩
  · exact h.elim
/-! is None -/
def isNone : W → Bool
  | .d .none => true
  | _ => false
theorem isNone_ok {G : Hp} {α : Al} {x : W} {v : V} (r : Rv K G α v x) : decide (v = .non) = isNone x := by
  cases x with
  | d x => cases r <;> rfl
  | c j => obtain ⟨a, _, rfl⟩ := r; rfl
  | k ks => obtain ⟨_, a, rfl, _⟩ := r; rfl
  | p ds => obtain ⟨a, _, rfl, _⟩ := r; rfl
  | q ks x => obtain ⟨_, a, _, _, rfl, _⟩ := r; rfl
  | o a d fs => cases r.1; rfl
  | t xs => obtain ⟨a, _, rfl, _⟩ := r; rfl
end
end Dl
namespace Dl
open PySem PySem.Spec PyProof.Rows L2
/-! #### subscripts -/
def dIx : D2 := fun x y O R => match x, y with
  | .d (.str s), .d (.int i) => s.length ≤ 1000000 ∧ (match atI s.cps.toList i with
    | some c => R (.d (.str ⟨#[c]⟩)) O
    | none => False)
  | x, .d (.int i) => (match asS x O with
    | some ws => (match atI ws i with
      | some w => R w O
      | none => False)
    | none => False)
  | _, _ => False
theorem strOk_one {s : Str} {i : Int} {c : Nat} (h : PyData.strOk s = true) (e : atI s.cps.toList i = some c) : PyData.strOk ⟨#[c]⟩ = true := by
  obtain ⟨j, _, hj, _⟩ := atI_get e
  have hm : c ∈ s.cps.toList := List.mem_of_getElem? hj
  unfold PyData.strOk at h ⊢
  rw [Array.all_eq_true] at h
  have hc : c < 0x110000 := by
    obtain ⟨n, hn, e⟩ := List.getElem_of_mem hm
    have := h n (by simpa using hn)
    rw [← e]
    simpa using this
  simp [hc]
theorem paired_atI {α β : Type} {F : α → β → Prop} {xs : List α} {ys : List β} {i : Int} {y : β} (r : Paired F xs ys) (h : atI ys i = some y) (get : ∀ j : Nat, ys[j]? = some y → ∃ x, xs[j]? = some x ∧ F x y) : ∃ x, atI xs i = some x ∧ F x y := by
  have hl := Paired.length r
  unfold atI at h ⊢
  rw [hl]
  cases e : ixN ys.length i with
  | none => rw [e] at h; cases h
  | some j =>
    rw [e] at h
    exact get j h
section
variable {K : Fg} {mg : Str → Option Value}
theorem s_ix : OpS K mg dIx (rIx K) := by
  intro G α O H x y u v R Q rel r1 r2 h p
  unfold dIx at h
  split at h
  · cases r2
    cases r1 with
    | str s ok =>
      obtain ⟨hz, h⟩ := h
      split at h
      · next c e => exact .inr (.inr ⟨_, _, _, rfl, rfl, szl hz, e, p.here h rel (.str _ (strOk_one ok e))⟩)
      · exact h.elim
  · cases r2
    split at h
    · next ws e =>
      split at h
      · next w ew =>
        obtain ⟨a, vs, rfl, hs, rl⟩ := asS_ok rel r1 e
        obtain ⟨z, hz, rz⟩ := paired_atI rl ew fun j q => rl.get q
        rcases hs with hs | hs
        · exact .inl ⟨a, vs, _, z, rfl, rfl, hs, hz, p.here h rel rz⟩
        · exact .inr (.inl ⟨a, vs, _, z, rfl, rfl, hs, hz, p.here h rel rz⟩)
      · exact h.elim
    · exact h.elim
  · exact h.elim
variable {X : Cx} {Wx : WX} {k : Nat} {a b c e : Expr} {wa wb wc we : DEx} {pos p2 : Pos} {es : List Expr} {ws : DA}
/-! #### slices -/
abbrev DO := Gm → Oh → (Option Int → Oh → Prop) → DX → Prop
def PostO (K : Fg) (mg : Str → Option Value) (G : Hp) (α : Al) (R : Option Int → Oh → Prop) (Q : Option Int → Hp → Prop) : Prop := ∀ r O', R r O' → ∀ G' α' H', Ex G G' → Pre α α' → Rel K mg G' α' O' H' → Q r H'
def liftO (K : Fg) (mg : Str → Option Value) (Wx : WX) (w : DO) : TO := fun σ H Q => ∃ G α Γ O R xe, Sl K G α Γ σ ∧ Rel K mg G α O H ∧ w Γ O R xe ∧ PostO K mg G α R Q ∧ XPost K mg G α xe Wx
def DOp (X : Cx) (Wx : WX) (e : Option Expr) (w : DO) : Prop := PO X e (liftO X.K X.mg Wx w)
def dO0 : DO := fun _ O R _ => R none O
def dO1 (w : DEx) : DO := fun Γ O R xe => w Γ O (fun x O1 => match x with
  | .d (.int i) => R (some i) O1
  | _ => False) xe
theorem do_none : DOp X Wx none dO0 := ⟨fun pins s σ H Q I h => by
  obtain ⟨G, α, Γ, O, R, xe, sl, rel, h, p, xp⟩ := h
  exact (po_none (X := X)).run pins s σ H Q I (p _ _ h _ _ _ (Ex.refl _) (Pre.refl _) rel)⟩
theorem do_some (he : DE X Wx e we) : DOp X Wx (some e) (dO1 we) := ⟨fun pins s σ H Q I h => by
  obtain ⟨G, α, Γ, O, R, xe, sl, rel, h, p, xp⟩ := h
  refine (po_some he).run pins s σ H Q I ⟨G, α, Γ, O, _, xe, sl, rel, h, fun x O1 h1 v G1 α1 H1 e1 p1 rel1 r1 => ?_, xp⟩
  dsimp only at h1
  split at h1
  · cases r1
    exact ⟨_, rfl, p _ _ h1 _ _ _ e1 p1 rel1⟩
  · exact h1.elim⟩
/-- the part of a list -/
def cutL {α : Type} (xs : List α) (lo hi : Option Int) : List α := (xs.drop (HT.sIx xs.length 0 lo)).take (HT.sIx xs.length xs.length hi - HT.sIx xs.length 0 lo)
theorem cutL_all {α : Type} {xs : List α} {lo hi : Option Int} (h0 : HT.sIx xs.length 0 lo = 0) (h1 : HT.sIx xs.length xs.length hi = xs.length) : cutL xs lo hi = xs := by
  unfold cutL
  rw [h0, h1, List.drop_zero, Nat.sub_zero, List.take_length]
def dSl (x : W) (lo hi : Option Int) (O : Oh) (R : DK) : Prop := match x with
  | .d (.str s) => s.length ≤ 1000000 ∧ R (.d (.str (cutS s lo hi))) O
  | .d (.tuple ds) => R (.d (.tuple (cutL ds lo hi))) O
  | .d (.list ds) => R (.d (.list (cutL ds lo hi))) O
  | x => match asL x O with
    | some ws => match datas ws with
      | some ds => R (.d (.list (cutL ds lo hi))) O
      | none => False
    | none => False
def dSlice (wo : DEx) (wl wh : DO) : DEx := fun Γ O R xe => wo Γ O (fun x O1 => wl Γ O1 (fun lo O2 => wh Γ O2 (fun hi O3 => dSl x lo hi O3 R) xe) xe) xe
theorem strOk_cut {s : Str} {lo hi : Option Int} (h : PyData.strOk s = true) : PyData.strOk (cutS s lo hi) = true := by
  unfold PyData.strOk at h ⊢
  rw [Array.all_eq_true] at h
  have hall : ∀ c ∈ s.cps.toList, c < 0x110000 := fun c hm => by
    obtain ⟨n, hn, e⟩ := List.getElem_of_mem hm
    have := h n (by simpa using hn)
    rw [← e]
    simpa using this
  unfold cutS
  rw [← Array.all_toList]
  rw [List.all_eq_true]
  intro c hc
  have hc' : c ∈ s.cps.toList := by
    exact List.mem_of_mem_drop (List.mem_of_mem_take hc)
  exact decide_eq_true (hall c hc')
theorem de_slice {lo hi : Option Expr} {wl wh : DO} (he : DE X Wx e we) (hl : DOp X Wx lo wl) (hh : DOp X Wx hi wh) : DE X Wx (.Subscript e (.Slice lo hi none p2) pos) (dSlice we wl wh) := by
  refine pe_imp (fun σ H Q ⟨G, α, Γ, O, R, xe, sl, rel, h, p, xp⟩ => ?_) (pe_slice (SlR.or sl_str (SlR.or sl_tupF sl_list)) he hl hh)
  refine ⟨G, α, Γ, O, _, xe, sl, rel, h, fun x O1 h1 v G1 α1 H1 e1 p1 rel1 r1 => ?_, xp⟩
  refine ⟨G1, α1, Γ, O1, _, xe, sl.mono e1 p1, rel1, h1, fun lo O2 h2 G2 α2 H2 e2 p2 rel2 => ?_, xp.mono e1 p1⟩
  refine ⟨G2, α2, Γ, O2, _, xe, sl.mono (e1.trans e2) (p1.trans p2), rel2, h2, fun hi O3 h3 G3 α3 H3 e3 p3 rel3 => ?_, xp.mono (e1.trans e2) (p1.trans p2)⟩
  have r3 := r1.mono (e2.trans e3) (p2.trans p3)
  have pp := p.mono (e1.trans (e2.trans e3)) (p1.trans (p2.trans p3))
  unfold dSl at h3
  split at h3
  · cases r3 with
    | str s ok => exact .inl ⟨_, rfl, szl h3.1, pp.here h3.2 rel3 (.str _ (strOk_cut ok))⟩
  · cases r3 with
    | tup hs td ha =>
      have hl := ha.length
      refine .inr (.inl ⟨_, _, rfl, rel3.ex.sqT hs, fun ⟨z1, z2⟩ => ?_, fun _ q ob hq hd => pp.layF h3 rel3 hq hd ?_⟩)
      · rw [hl] at z1 z2
        rw [cutL_all z1 z2] at h3
        exact pp.here h3 rel3 (.tup hs td ha)
      · unfold cutL
        rw [← hl]
        exact (ha.drop _).take _
  · cases r3 with
    | lst hs ha =>
      have hl := ha.length
      refine .inr (.inr ⟨_, _, rfl, SqL.of (rel3.ex _ _ hs), fun q hq => pp.lay h3 rel3 hq (.lst upd_same ?_)⟩)
      unfold cutL
      rw [← hl]
      exact ((ha.drop _).take _).mono (Ex.new (rel3.ex.free hq))
  · split at h3
    · next ws ew =>
      split at h3
      · next ds ed =>
        obtain ⟨a, vs, rfl, hs, rl⟩ := asL_ok rel3 r3 ew
        rw [datas_eq ed] at rl
        have ha := rl.toD
        have hl := ha.length
        refine .inr (.inr ⟨_, _, rfl, SqL.of hs, fun q hq => pp.lay h3 rel3 hq (.lst upd_same ?_)⟩)
        unfold cutL
        rw [← hl]
        exact ((ha.drop _).take _).mono (Ex.new (rel3.ex.free hq))
      · exact h3.elim
    · exact h3.elim
/-- xs[::-1] -/
def dRevL (we : DEx) : DEx := fun Γ O R xe => we Γ O (fun x O1 => match asL x O1 with
  | some ws => (match datas ws with
    | some ds => R (.d (.list ds.reverse)) O1
    | none => False)
  | none => False) xe
theorem de_revL {j : Nat} {q1 q2 q3 : Pos} (he : DE X Wx e we) : DE X Wx (.Subscript e (.Slice none none (some (.UnaryOp .USub (.Constant (.int 1) j q1) q2)) q3) pos) (dRevL we) := by
  refine pe_imp (fun σ H Q ⟨G, α, Γ, O, R, xe, sl, rel, h, p, xp⟩ => ?_) (pe_revL he)
  refine ⟨G, α, Γ, O, _, xe, sl, rel, h, fun x O1 h1 v G1 α1 H1 e1 p1 rel1 r1 => ?_, xp⟩
  dsimp only at h1
  split at h1
  · next ws ew =>
    split at h1
    · next ds ed =>
      obtain ⟨a, vs, rfl, hs, rl⟩ := asL_ok rel1 r1 ew
      rw [datas_eq ed] at rl
      have ha := rl.toD
      exact ⟨a, vs, rfl, SqL.of hs, fun q hq => (p.mono e1 p1).lay h1 rel1 hq (.lst upd_same (ha.reverse.mono (Ex.new (rel1.ex.free hq))))⟩
    · exact h1.elim
  · exact h1.elim
/-! #### in -/
def flatD : PyData → Bool
  | .none => true
  | .bool _ => true
  | .int _ => true
  | .str _ => true
  | _ => false
def strIn (a b : Str) : Bool := !(Builtin.Str.occurrences b a 0 b.length 1).isEmpty
theorem flat_ok {G : Hp} {x : PyData} {v : V} (r : Rp K G v x) (h : flatD x = true) : flatV v = true := by
  cases r <;> first | rfl | cases h
theorem eqV_ok {G : Hp} {x y : PyData} {v u : V} (r : Rp K G v x) (r' : Rp K G u y) (h : flatD x = true) (h' : flatD y = true) : eqV v u = PyData.eqv x y := by
  cases r <;> first | (cases h; done) | (cases r' <;> first | (cases h'; done) | (simp [eqV, PyData.eqv]))
theorem flats_ok {G : Hp} : ∀ {ds : List PyData} {vs : List V}, RpL K G vs ds → ds.all flatD = true → vs.all flatV = true
  | [], _, r, _ => by cases r; rfl
  | d :: ds, _, r, h => by
    rw [List.all_cons, Bool.and_eq_true] at h
    cases r with
    | cons r1 r2 => rw [List.all_cons, flat_ok r1 h.1, flats_ok r2 h.2]; rfl
def rInS2 (neg : Bool) : R2 := fun x y H Q => ∃ i j, x = .str i ∧ y = .str j ∧ Q (.bl (if neg then !strIn i j else strIn i j)) H
/-! #### calls of built-ins by value -/
abbrev DC := List W → Oh → DK → Prop
def CallS (K : Fg) (mg : Str → Option Value) (f : DC) (r : List V → Hp → VK → Prop) : Prop := ∀ G α O H xs vs R Q, Rel K mg G α O H → RvL K G α vs xs → f xs O R → Post K mg G α R Q → r vs H Q
def dCB (f : DC) (ws : DA) : DEx := fun Γ O R xe => ws Γ O (fun xs O1 => f xs O1 R) xe
theorem lift_cb {f : DC} {r : List V → Hp → VK → Prop} (hs : CallS K mg f r) {σ : L2.St} {H : Hp} {Q : VK} (h : liftE K mg Wx (dCB f ws) σ H Q) : tCB r (liftA K mg Wx ws) σ H Q := by
  obtain ⟨G, α, Γ, O, R, xe, sl, rel, h, p, xp⟩ := h
  exact ⟨G, α, Γ, O, _, xe, sl, rel, h, fun x O1 h1 v G1 α1 H1 e1 p1 rel1 r1 => hs _ _ _ _ _ _ _ _ rel1 r1 h1 (p.mono e1 p1), xp⟩
variable {x : Str} {p : Pos}
theorem de_callB {id : String} {f : DC} {r : List V → Hp → VK → Prop} (hc : CallR X (.builtin id) r) (hs : CallS X.K X.mg f r) (hm : X.mg x = none) (hv : bootBuiltins x = some (.builtin id)) (ha : DAs X Wx (e :: es) ws) (hg : Gl X x := by rfl) (hn : x ≠ "__name__" := by decide) (hdb : (x == ("__debug__" : Str)) = false := by decide)
    (he : starEach (e :: es) X.env = (false, eval e X.env) :: starEach es X.env := by rfl) (hpl : (backTo pos (starEach es X.env)).any (·.1) = false := by rfl) : DE X Wx (.Call (.Name x p) (e :: es) [] pos) (dCB f ws) :=
  pe_imp (fun _ _ _ h => lift_cb hs h) (pe_callB hc hg hm hv ha hn hdb he hpl)
theorem de_callTy {T : String} {f : DC} {r : List V → Hp → VK → Prop} (hc : CallR X (.type T) r) (hs : CallS X.K X.mg f r) (hm : X.mg x = none) (hv : bootBuiltins x = some (.type T)) (ha : DAs X Wx (e :: es) ws) (hg : Gl X x := by rfl) (hn : x ≠ "__name__" := by decide) (hdb : (x == ("__debug__" : Str)) = false := by decide)
    (he : starEach (e :: es) X.env = (false, eval e X.env) :: starEach es X.env := by rfl) (hpl : (backTo pos (starEach es X.env)).any (·.1) = false := by rfl) : DE X Wx (.Call (.Name x p) (e :: es) [] pos) (dCB f ws) :=
  pe_imp (fun _ _ _ h => lift_cb hs h) (pe_callTy hc hg hm hv ha hn hdb he hpl)
theorem or_call {f : Value} {r r' : List V → Hp → VK → Prop} (h : CallR X f r) (h' : CallR X f r') : CallR X f (fun xs H Q => r xs H Q ∨ r' xs H Q) := by
  intro pins s σ H xs us Q I rs q
  rcases q with q | q
  · exact h pins s σ H xs us Q I rs q
  · exact h' pins s σ H xs us Q I rs q
theorem rv1 {G : Hp} {α : Al} {vs : List V} {w : W} (h : RvL K G α vs [w]) : ∃ v, vs = [v] ∧ Rv K G α v w := by
  cases h with
  | cons r t => cases t; exact ⟨_, rfl, r⟩
theorem rv2 {G : Hp} {α : Al} {vs : List V} {w z : W} (h : RvL K G α vs [w, z]) : ∃ v u, vs = [v, u] ∧ Rv K G α v w ∧ Rv K G α u z := by
  cases h with
  | cons r t => cases t with | cons r' t => cases t; exact ⟨_, _, rfl, r, r'⟩
def rLen3 (K : Fg) : List V → Hp → VK → Prop := fun xs H Q => (∃ p ys, xs = [.ref p] ∧ (SqL K H p ys ∨ SqT K H p ys) ∧ Q (.int ys.length) H) ∨ (∃ z, xs = [.str z] ∧ z.length ≤ sizeLine ∧ Q (.int z.length) H)
theorem call_len3 : CallR X (.builtin "len") (rLen3 X.K) := or_call call_len_seq call_len_str
def dLen : DC := fun xs O R => match xs with
  | [.d (.str s)] => s.length ≤ 1000000 ∧ R (.d (.int (s.length : Nat))) O
  | [x] => (match asS x O with
    | some ws => R (.d (.int (ws.length : Nat))) O
    | none => False)
  | _ => False
theorem s_len : CallS K mg dLen (rLen3 K) := by
  intro G α O H xs vs R Q rel r h p
  unfold dLen at h
  split at h
  · obtain ⟨v, rfl, rv⟩ := rv1 r
    cases rv
    exact .inr ⟨_, rfl, szl h.1, p.here h.2 rel (.int _)⟩
  · obtain ⟨v, rfl, rv⟩ := rv1 r
    split at h
    · next ws ew =>
      obtain ⟨a, vs, rfl, hs, rl⟩ := asS_ok rel rv ew
      refine .inl ⟨a, vs, rfl, hs, ?_⟩
      rw [rl.len]
      exact p.here h rel (.int _)
    · exact h.elim
  · exact h.elim
def dAbs : DC := fun xs O R => match xs with
  | [.d (.int i)] => R (.d (.int (if i < 0 then -i else i))) O
  | _ => False
theorem s_abs : CallS K mg dAbs (fun xs H Q => ∃ i, xs = [.int i] ∧ Q (.int (if i < 0 then -i else i)) H) := by
  intro G α O H xs vs R Q rel r h p
  unfold dAbs at h
  split at h
  · obtain ⟨v, rfl, rv⟩ := rv1 r
    cases rv
    exact ⟨_, rfl, p.here h rel (.int _)⟩
  · exact h.elim
def dMax : DC := fun xs O R => match xs with
  | [.d (.int i), .d (.int j)] => R (.d (.int (if j > i then j else i))) O
  | _ => False
theorem s_max : CallS K mg dMax (fun xs H Q => ∃ i j, xs = [.int i, .int j] ∧ Q (.int (if j > i then j else i)) H) := by
  intro G α O H xs vs R Q rel r h p
  unfold dMax at h
  split at h
  · obtain ⟨v, u, rfl, rv, ru⟩ := rv2 r
    cases rv; cases ru
    exact ⟨_, _, rfl, p.here h rel (.int _)⟩
  · exact h.elim
def dMin : DC := fun xs O R => match xs with
  | [.d (.int i), .d (.int j)] => R (.d (.int (if j < i then j else i))) O
  | _ => False
theorem s_min : CallS K mg dMin (fun xs H Q => ∃ i j, xs = [.int i, .int j] ∧ Q (.int (if j < i then j else i)) H) := by
  intro G α O H xs vs R Q rel r h p
  unfold dMin at h
  split at h
  · obtain ⟨v, u, rfl, rv, ru⟩ := rv2 r
    cases rv; cases ru
    exact ⟨_, _, rfl, p.here h rel (.int _)⟩
  · exact h.elim
/-- tuple(x) -/
def dTupOf : DC := fun xs O R => match xs with
  | [.d (.tuple ds)] => R (.d (.tuple ds)) O
  | [x] => (match asL x O with
    | some ws => (match datas ws with
      | some ds => R (.d (.tuple ds)) O
      | none => False)
    | none => False)
  | _ => False
theorem s_tupOf : CallS K mg dTupOf (rTupOf K) := by
  intro G α O H xs vs R Q rel r h p
  unfold dTupOf at h
  split at h
  · obtain ⟨v, rfl, rv⟩ := rv1 r
    cases rv with
    | tup hs td ha => exact ⟨_, _, rfl, .inr ⟨rel.ex.sqT hs, p.here h rel (.tup hs td ha)⟩⟩
  · obtain ⟨v, rfl, rv⟩ := rv1 r
    split at h
    · next ws ew =>
      split at h
      · next ds ed =>
        obtain ⟨a, vs, rfl, hs, rl⟩ := asL_ok rel rv ew
        rw [datas_eq ed] at rl
        exact ⟨a, vs, rfl, .inl ⟨SqL.of hs, fun l ob hl hd => p.layF h rel hl hd rl.toD⟩⟩
      · exact h.elim
    · exact h.elim
  · exact h.elim
/-- list(x): one that never changes; one that will -/
def dListOf : DC := fun xs O R => match xs with
  | [x] => (match asS x O with
    | some ws => (match datas ws with
      | some ds => R (.d (.list ds)) O
      | none => False)
    | none => False)
  | _ => False
def dListC : DC := fun xs O R => match xs with
  | [x] => (match asS x O with
    | some ws => R (.c O.length) (O ++ [.lst ws])
    | none => False)
  | _ => False
def rListOf (K : Fg) : List V → Hp → VK → Prop := fun xs H Q => ∃ p ys, xs = [.ref p] ∧ (SqL K H p ys ∨ SqT K H p ys) ∧ ∀ l, H l = none → Q (.ref l) (upd H l (.lst ys))
theorem s_listOf : CallS K mg dListOf (rListOf K) := by
  intro G α O H xs vs R Q rel r h p
  unfold dListOf at h
  split at h
  · obtain ⟨v, rfl, rv⟩ := rv1 r
    split at h
    · next ws ew =>
      split at h
      · next ds ed =>
        obtain ⟨a, vs, rfl, hs, rl⟩ := asS_ok rel rv ew
        rw [datas_eq ed] at rl
        exact ⟨a, vs, rfl, hs, fun l hl => p.lay h rel hl (.lst upd_same (rl.toD.mono (Ex.new (rel.ex.free hl))))⟩
      · exact h.elim
    · exact h.elim
  · exact h.elim
theorem s_listC : CallS K mg dListC (rListOf K) := by
  intro G α O H xs vs R Q rel r h p
  unfold dListC at h
  split at h
  · obtain ⟨v, rfl, rv⟩ := rv1 r
    split at h
    · next ws ew =>
      obtain ⟨a, vs, rfl, hs, rl⟩ := asS_ok rel rv ew
      refine ⟨a, vs, rfl, hs, fun l hl => ?_⟩
      have rel2 := rel.cell (o := .lst vs) (c := .lst ws) hl (fun b z => by cases z) ⟨rel.ex.free hl, vs, upd_same, rl.mono (Ex.refl _) Pre.push⟩
      exact p _ _ h _ _ _ _ (Ex.refl _) Pre.push rel2 ⟨l, pre_len rel.len, rfl⟩
    · exact h.elim
  · exact h.elim
/-! all, any of truth values -/
def boolsD : List PyData → Option (List Bool)
  | [] => some []
  | .bool b :: r => match boolsD r with
    | some bs => some (b :: bs)
    | none => none
  | _ :: _ => none
def dAll : DC := fun xs O R => match xs with
  | [.d (.list ds)] => (match boolsD ds with
    | some bs => R (.d (.bool (bs.all id))) O
    | none => False)
  | _ => False
end
end Dl
/-! ### set(xs) of a list of texts, any number of them, some alike -/
namespace Dl
open PySem PySem.Spec PyProof.Rows
/-- each once, by the first time -/
def addMet (σ : List Str) (v : Str) : List Str := if σ.any (· == v) then σ else σ ++ [v]
def met (xs : List Str) : List Str := xs.foldl addMet []
theorem met_snoc (xs : List Str) (v : Str) : met (xs ++ [v]) = addMet (met xs) v := by unfold met; rw [List.foldl_append]; rfl
theorem addMet_le (σ : List Str) (v : Str) : (addMet σ v).length ≤ σ.length + 1 := by
  unfold addMet
  split
  · omega
  · rw [List.length_append]; exact Nat.le_refl _
theorem met_le_aux (xs : List Str) : ∀ σ : List Str, (xs.foldl addMet σ).length ≤ σ.length + xs.length := by
  induction xs with
  | nil => intro σ; exact Nat.le_refl _
  | cons x r ih =>
    intro σ
    have h1 := ih (addMet σ x)
    have h2 := addMet_le σ x
    show (r.foldl addMet (addMet σ x)).length ≤ σ.length + (r.length + 1)
    omega
theorem met_le (xs : List Str) : (met xs).length ≤ xs.length := by
  have := met_le_aux xs []
  simpa [met] using this
theorem addMet_any (σ : List Str) (v k : Str) : (addMet σ v).any (· == k) = (σ.any (· == k) || decide (k = v)) := by
  unfold addMet
  by_cases h : σ.any (· == v) = true
  · rw [if_pos h]
    by_cases e : k = v
    · subst e
      rw [h]
      simp
    · simp [e]
  · rw [if_neg h, List.any_append]
    by_cases e : k = v
    · subst e
      simp
    · have hb : (v == k) = false := by simpa [beq_iff_eq] using fun z : v = k => e z.symm
      simp [hb, e]
theorem addMet_len (σ : List Str) (v : Str) : (addMet σ v).length = if σ.any (· == v) then σ.length else σ.length + 1 := by
  unfold addMet
  split <;> simp
theorem take_snoc {xs : List Str} {i : Nat} (h : i < xs.length) : xs.take (i + 1) = xs.take i ++ [xs.getD i Str.empty] := by
  rw [List.take_add_one, List.getElem?_eq_getElem h, List.getD_eq_getElem?_getD, List.getElem?_eq_getElem h]
  rfl
section
variable {prog : Program} {w : World} {A : Around} {R : Result → Shared → Prop} {I : Addr} {fp wr : List Addr} {G : Array GenState → Array GenState → Prop} {n : Nat} {P : Nat → Value → Prop} {St : Nat → Shared → Prop}
abbrev TextsAt (prog : Program) (w : World) (h : Heap) (S : Addr) (ys : List Str) : Prop := h.SetOf (strKind prog w) S (fun k' => ys.any (· == k')) ys.length
theorem texts_loop (W : WalksS prog w A.in1 I fp wr G n P St) (S : Addr) (hS0 : S ∉ fp) (xs : List Str) (hn : xs.length = n) (hv : ∀ i v, P i v → ∃ t, v = .str (xs.getD i Str.empty) t) (hb : n + 1 < scanBound) :
    ∀ (m i : Nat) (s : Shared), i + m = n → St i s → TextsAt prog w s.heap S (met (xs.take i)) →
      (∀ s', Moved (S :: wr) G s s' → TextsAt prog w s'.heap S (met xs) → R (.ok (.ret .none)) s') → codeAny (model prog w) A (.builtin "set.update.loop" ⟨[.ref S, .ref I], []⟩) R s := by
  have hw : S ∉ wr := fun h => hS0 (W.sub _ h)
  have wide : ∀ b ∈ wr, b ∈ S :: wr := fun b hb => List.mem_cons_of_mem _ hb
  intro m
  induction m with
  | zero =>
    intro i s hi st hS hR
    refine codeAny_builtin F.entry_set_update_loop ?_
    rw [Around.under_plainId F.plain_set_update_loop _]
    show wpAny _ A.in1 (pyNext (.ref I) >>= _) _ _ s
    obtain rfl : i = n := by omega
    refine wpAny_bind (W.done s _ _ st fun s' hm => wpAny_pure (hR s' (hm.mono wide) ?_))
    obtain ⟨o, es, ep, t, ho, more⟩ := hS
    rw [← hn, List.take_length] at more
    exact ⟨o, es, ep, t, hm.heap S _ hw ho, more⟩
  | succ m ih =>
    intro i s hi st hS hR
    refine codeAny_builtin F.entry_set_update_loop ?_
    rw [Around.under_plainId F.plain_set_update_loop _]
    show wpAny _ A.in1 (pyNext (.ref I) >>= _) _ _ s
    have hl : i < n := by omega
    refine wpAny_bind (W.item i s _ _ hl st fun v s' hP st' hm => ?_)
    obtain ⟨t, rfl⟩ := hv i v hP
    have hS' : TextsAt prog w s'.heap S (met (xs.take i)) := by
      obtain ⟨o, es, ep, tb, ho, more⟩ := hS
      exact ⟨o, es, ep, tb, hm.heap S _ hw ho, more⟩
    show wpAny _ A.in1 (holding [Value.str (xs.getD i Str.empty) t] (setAdd S (.str (xs.getD i Str.empty) t)) >>= _) _ _ s'
    refine wpAny_bind (wpAny_holding ?_)
    unfold setAdd
    refine wpAny_holding (wpAny_bind ((strKind prog w).pyHash (k := xs.getD i Str.empty) (strKind_is _ _ _ _) ?_))
    have room : (met (xs.take i)).length + 1 < scanBound := by
      have h1 := met_le (xs.take i)
      rw [List.length_take] at h1
      omega
    refine wpAny_setAddHashed_of (knd := strKind prog w) (s := { s' with toks := s'.toks + 1 }) (strKind_is _ _ _ _) rfl hS' room fun h' same hS2 => ?_
    have hS3 : TextsAt prog w h' S (met (xs.take (i + 1))) := by
      rw [take_snoc (by omega), met_snoc]
      exact SetOf_congr hS2 (fun k' => (addMet_any _ _ _).symm) (addMet_len _ _).symm
    refine wpAny_pure ⟨plainId_quiet F.plain_set_update_loop _, ih (i + 1) _ (by omega) (W.frame _ s' _ _ st' (Nat.le_succ _) fun b hb o e => ?_) hS3 fun s'' hm2 hS4 => ?_⟩
    · rw [same.2 b fun z : b = S => hS0 (z ▸ hb)]
      exact e
    · refine hR s'' (Moved.trans W.gtrans ((hm.mono wide).then_heap (Nat.le_succ _) fun b o hb e => ?_) hm2) hS4
      rw [same.2 b fun z : b = S => hb (z ▸ List.mem_cons_self)]
      exact e
end
section
variable {prog : Program} {w : World} {A : Around} {E : Value → Shared → Prop} {s : Shared}
/-- what a set that was just made is -/
abbrev set0 (led : Bool) : Obj := { cls := .type "set", dict := none, data := .set #[] 0 (.fresh 0 0 led) }
theorem set_texts {l : Addr} {items : Array Value} {xs : List Str} {Q : Value → Shared → Prop} (hh : A.handled = none) (hl : s.heap.IsList l items) (hi : StrsAre items.toList xs) (hb : items.size + 1 < scanBound)
    (h : ∀ (h' : Heap) (tk : Nat), TextsAt prog w h' s.heap.objs.size (met xs) → (∀ b o, b < s.heap.objs.size → s.heap.get? b = some o → h'.get? b = some o) → Q (.ref s.heap.objs.size) { s with heap := h', toks := tk }) :
    wpAny (model prog w) A (call (.type "set") [.ref l]) Q E s := by
  obtain ⟨c, tl, hmro⟩ := PySem.F.called_set.mro
  have k1 := PySem.F.called_set.made
  have k2 := PySem.F.called_set.sub
  refine wpAny_call (codeAny_of_tree ?_)
  show wpAny _ _ (callAny (.type "set") _) _ _ _
  refine wpAny_pure ⟨Code.quiet_builtin _ (by decide +kernel), codeAny_builtin PySem.F.entry_type_call ?_⟩
  rw [Around.under_plain (weight_type_call_type "set" [.ref l] []) rfl]
  have k3 := PySem.F.called_set.notType
  have k4 := PySem.F.called_set.canCreate
  have k5 := PySem.F.typeCall_set_1 (.ref l)
  repeat (any_goals (first | assumption | wp_step))
  refine codeAny_mono (PySem.code_set_new_1 (.ref l) (E := E) (Q₁ := fun obj s₁ => ∃ led : Bool, obj = .ref s.heap.objs.size ∧ s₁ = { s with heap := s.heap.push (set0 led) }) fun led => ⟨led, rfl, rfl⟩) fun r s₁ hr => ?_
  cases r with
  | error e => exact hr
  | ok fl =>
    cases fl with
    | ret obj =>
      obtain ⟨led, rfl, rfl⟩ := hr
      have hS : (s.heap.push (set0 led)).get? s.heap.objs.size = some (set0 led) := Heap.get?_push_size _ rfl
      have hT : Shared.TypeIs { s with heap := s.heap.push (set0 led) } (.ref s.heap.objs.size) "set" := ⟨_, hS, rfl⟩
      have k6 := PySem.F.called_set.init.lookup
      have k7 := PySem.F.called_set.init.bind (.ref s.heap.objs.size)
      repeat (any_goals (first | assumption | wp_step))
      refine codeAny_mono (codeAny_call_builtin (R := wants (fun r s₂ => r = .none ∧ ∃ h' tk, s₂ = { s with heap := h', toks := tk } ∧ TextsAt prog w h' s.heap.objs.size (met xs) ∧ (∀ b o, b < s.heap.objs.size → s.heap.get? b = some o → h'.get? b = some o)) E)
        PySem.F.called_set.init.plain PySem.F.entry_set_init (PySem.check_set_init_1 hT ?_)) fun r₂ s₂ hr₂ => ?_
      · obtain ⟨⟨lc, ld, ldat, lsl⟩, hol, hcl, nl, hdl⟩ := hl
        simp only at hcl hdl
        subst hcl hdl
        have hol' : (s.heap.push (set0 led)).get? l = some { cls := .type "list", dict := ld, data := .seq items nl, slots := lsl } := Heap.get?_push_of_some _ hol
        have k8 := PySem.F.sub_list_set
        have k9 := PySem.F.sub_list_frozenset
        have k10 : (Value.type "list" == Value.type "dict") = false := by decide
        have hl1 : (s.heap.push (set0 led)).IsList l items := ⟨_, hol', rfl, nl, rfl⟩
        unfold Builtin.«set.__init__» noKeywords Builtin.Frozenset.updateFrom
        generalize hPI : pyIter = PI
        wp_walk
        subst hPI
        refine wpAny_pyIter_list hl1 (wpAny_bind (wpAny_runValue ?_))
        have lt : l < s.heap.objs.size := Heap.lt_size hol
        have sz : (s.heap.push (set0 led)).objs.size = s.heap.objs.size + 1 := Heap.size_push ..
        have hh3 : A.in1.in1.in1.handled = none := by simp [hh]
        have nI : l ≠ (s.heap.push (set0 led)).objs.size := by rw [sz]; exact Nat.ne_of_lt (Nat.lt_succ_of_lt lt)
        have nS : s.heap.objs.size ∉ [(s.heap.push (set0 led)).objs.size, l] := by
          rw [sz]
          intro z
          rcases List.mem_cons.mp z with z | z
          · exact absurd z (Nat.ne_of_lt (Nat.lt_succ_self _))
          · have e := List.mem_singleton.mp z
            exact absurd e (Nat.ne_of_gt lt)
        have hn : xs.length = items.size := by rw [← StrsAre.len_eq hi, Array.length_toList]
        refine texts_loop ((Walks.list hh3 _ l nI items).toS) s.heap.objs.size nS xs hn (fun i v hv => SS.strs_at hi i v (by rw [Array.getElem?_toList]; exact hv)) hb items.size 0 _ (Nat.zero_add _)
          ⟨⟨_, Heap.get?_push_size _ rfl, rfl, rfl⟩, hl1.push _⟩ ?start ?fin
        case start =>
          exact SetOf_congr ((setObjOf_fresh (knd := strKind prog w) led).setOf (Heap.get?_push_of_some _ hS) (by unfold scanBound; omega)) (fun _ => rfl) rfl
        case fin =>
          intro s' hm hS'
          obtain ⟨h', g', d', tk', os'⟩ := s'
          obtain rfl : g' = s.gens := hm.gens
          obtain rfl : d' = s.drawn := hm.drawn
          obtain rfl : os' = s.os := hm.os
          refine wpAny_pure (wpAny_pure ⟨rfl, h', tk', rfl, hS', fun b o hb e => ?_⟩)
          refine hm.heap b o (fun z => ?_) (Heap.get?_push_of_some _ (Heap.get?_push_of_some _ e))
          rcases List.mem_cons.mp z with z | z
          · exact absurd z (Nat.ne_of_lt hb)
          · have z2 := List.mem_singleton.mp z
            rw [sz] at z2
            exact absurd z2 (Nat.ne_of_lt (Nat.lt_succ_of_lt hb))
      · cases r₂ with
        | error e => exact hr₂
        | ok fl₂ =>
          cases fl₂ with
          | ret r =>
            obtain ⟨rfl, h', tk, rfl, q1, q2⟩ := hr₂
            repeat (any_goals (first | assumption | wp_step))
            exact h _ _ q1 q2
          | _ => exact hr₂.elim
    | _ => exact hr.elim
end
end Dl
namespace Dl
open PySem PySem.Spec PyProof.Rows L2
/-! #### methods of built-ins -/
abbrev DM := W → List W → Oh → DK → Prop
def MtS (K : Fg) (mg : Str → Option Value) (f : DM) (r : V → List V → Hp → VK → Prop) : Prop := ∀ G α O H x xs v vs R Q, Rel K mg G α O H → Rv K G α v x → RvL K G α vs xs → f x xs O R → Post K mg G α R Q → r v vs H Q
def isLstW : W → Oh → Bool
  | .d (.list _), _ => true
  | .c j, O => match O[j]? with
    | some (.lst _) => true
    | _ => false
  | _, _ => false
def isStrW : W → Oh → Bool
  | .d (.str _), _ => true
  | _, _ => false
def isDicW : W → Oh → Bool
  | .c j, O => match O[j]? with
    | some (.dic _) => true
    | some (.dct _) => true
    | _ => false
  | _, _ => false
def TwS (K : Fg) (mg : Str → Option Value) (tw : W → Oh → Bool) (T : String) : Prop := ∀ G α O H x v, Rel K mg G α O H → Rv K G α v x → tw x O = true → tyV K T v H
theorem tw_list {K : Fg} {mg : Str → Option Value} : TwS K mg isLstW "list" := by
  intro G α O H x v rel r h
  cases x with
  | d x =>
    cases x <;> first | (cases h; done) | skip
    cases r with | lst hs ha => exact .inl ⟨rfl, _, SqL.of (rel.ex _ _ hs)⟩
  | c j =>
    obtain ⟨a, ha, rfl⟩ := r
    unfold isLstW at h
    dsimp only at h
    split at h
    · next ws e =>
      obtain ⟨_, vs, hH, _⟩ := rel.at_ j a _ ha e
      exact .inl ⟨rfl, _, SqL.of hH⟩
    · cases h
  | _ => cases h
def dBM (tw : W → Oh → Bool) (f : DM) (wo : DEx) (ws : DA) : DEx := fun Γ O R xe => wo Γ O (fun o O1 => tw o O1 = true ∧ ws Γ O1 (fun xs O2 => f o xs O2 R) xe) xe
section
variable {X : Cx} {Wx : WX} {k : Nat} {a b c e o : Expr} {wa wb wc we wo : DEx} {pos p2 apos cpos : Pos} {es : List Expr} {ws : DA} {T id : String} {name : Str} {f : DM} {r : V → List V → Hp → VK → Prop} {tw : W → Oh → Bool}
theorem lift_bm {K : Fg} {mg : Str → Option Value} (hs : MtS K mg f r) (ht : TwS K mg tw T) {σ : L2.St} {H : Hp} {Q : VK} (h : liftE K mg Wx (dBM tw f wo ws) σ H Q) : tBM K T r (liftE K mg Wx wo) (liftA K mg Wx ws) σ H Q := by
  obtain ⟨G, α, Γ, O, R, xe, sl, rel, h, p, xp⟩ := h
  refine ⟨G, α, Γ, O, _, xe, sl, rel, h, fun x O1 h1 v G1 α1 H1 e1 p1 rel1 r1 => ⟨ht _ _ _ _ _ _ rel1 r1 h1.1, ?_⟩, xp⟩
  exact ⟨G1, α1, Γ, O1, _, xe, sl.mono e1 p1, rel1, h1.2, fun xs O2 h2 vs G2 α2 H2 e2 p2 rel2 r2 => hs _ _ _ _ _ _ _ _ _ _ rel2 (r1.mono e2 p2) r2 h2 (p.mono (e1.trans e2) (p1.trans p2)), xp.mono e1 p1⟩
theorem de_bm (pa : PlainAttrs T) (slot : Slot T name id) (hty : typeOf (.builtin id) = pure (.type "method_descriptor")) (hm : MtR X id r) (hs : MtS X.K X.mg f r) (ht : TwS X.K X.mg tw T) (ho : DE X Wx o wo) (ha : DAs X Wx (e :: es) ws)
    (hbase : attributeBase o name X.env (eval o X.env) = eval o X.env := by rfl)
    (hfew : ((backTo cpos (starEach (e :: es) X.env)).all (fun x => !x.1) && (backToKw cpos (keywordEach [] X.env)).all (fun x => x.1.isSome)
      && decide ((e :: es).length + ([] : List Keyword).length + (if ([] : List Keyword).isEmpty then 0 else 1) < 30)) = true := by rfl)
    (hline : (apos.endLine == cpos.line) = true := by rfl) (h1 : starEach (e :: es) X.env = (false, eval e X.env) :: starEach es X.env := by rfl) (hplain : (backTo cpos (starEach es X.env)).any (·.1) = false := by rfl) :
    DE X Wx (.Call (.Attribute o name apos) (e :: es) [] cpos) (dBM tw f wo ws) := pe_imp (fun _ _ _ h => lift_bm hs ht h) (pe_bm pa slot hty hm ho ha hbase hfew hline h1 hplain)
variable {K : Fg} {mg : Str → Option Value}
/-- a cell's list is written -/
theorem Post.wr {G : Hp} {α : Al} {R : DK} {Q : VK} {x : W} {O : Oh} {H : Hp} {j : Nat} {a : Addr} {vs us : List V} {ws zs : List W} {v : V} (p : Post K mg G α R Q) (rel : Rel K mg G α O H) (ha : α.as[j]? = some a) (ej : O[j]? = some (.lst ws)) (g0 : G a = none) (hH : H a = some (.lst vs))
    (rz : RvL K G α us zs) (rx : Rv K G α v x) (q : R x (O.set j (.lst zs))) : Q v (upd H a (.lst us)) :=
  p.here q (rel.write (c := .lst zs) ha ej hH g0 (fun b z => by cases z) (fun b z => by cases z) ⟨g0, us, upd_same, rz⟩) rx
def dAppend : DM := fun x xs O R => match x, xs with
  | .c j, [y] => (match O[j]? with
    | some (.lst ws) => ws.length < 1000000 ∧ R (.d .none) (O.set j (.lst (ws ++ [y])))
    | _ => False)
  | _, _ => False
theorem s_append : MtS K mg dAppend rAppend := by
  intro G α O H x xs v vs R Q rel r1 rl h p
  unfold dAppend at h
  split at h
  · next j y =>
    split at h
    · next ws ej =>
      obtain ⟨u, rfl, ru⟩ := rv1 rl
      obtain ⟨a, ha, rfl⟩ := r1
      obtain ⟨g0, us, hH, rw'⟩ := rel.at_ j a _ ha ej
      exact ⟨a, us, u, rfl, rfl, hH, by rw [rw'.len]; exact szlt h.1, p.wr rel ha ej g0 hH (rw'.append (.cons ru .nil)) (show Rv K G α .non (.d .none) from Rp.non) h.2⟩
    · exact h.elim
  · exact h.elim
theorem RvL.eraseIdx {G : Hp} {α : Al} : ∀ {vs : List V} {ws : List W} (i : Nat), RvL K G α vs ws → RvL K G α (vs.eraseIdx i) (ws.eraseIdx i)
  | _, _, _, .nil => .nil
  | _, _, 0, .cons _ t => t
  | _, _, i + 1, .cons r t => .cons r (RvL.eraseIdx i t)
def dPopAt : DM := fun x xs O R => match x, xs with
  | .c j, [.d (.int i)] => (match O[j]? with
    | some (.lst ws) => ws.length ≤ 1000000 ∧ (match ixN ws.length i with
      | some m => (match ws[m]? with
        | some y => R y (O.set j (.lst (ws.eraseIdx m)))
        | none => False)
      | none => False)
    | _ => False)
  | _, _ => False
theorem s_popAt : MtS K mg dPopAt rPopAt := by
  intro G α O H x xs v vs R Q rel r1 rl h p
  unfold dPopAt at h
  split at h
  · next j i =>
    split at h
    · next ws ej =>
      obtain ⟨hz, h⟩ := h
      split at h
      · next m em =>
        split at h
        · next y ey =>
          obtain ⟨u, rfl, ru⟩ := rv1 rl
          cases ru
          obtain ⟨a, ha, rfl⟩ := r1
          obtain ⟨g0, us, hH, rw'⟩ := rel.at_ j a _ ha ej
          obtain ⟨s1, s2, s3, s4⟩ := ixN_seq em
          obtain ⟨z, hz', rz⟩ := rw'.get ey
          exact ⟨a, us, i, m, z, rfl, rfl, hH, by omega, by omega, by rw [rw'.len]; exact s1, hz', p.wr rel ha ej g0 hH (rw'.eraseIdx m) rz h⟩
        · exact h.elim
      · exact h.elim
    · exact h.elim
  · exact h.elim
theorem RvL.dropLast {G : Hp} {α : Al} {vs : List V} {ws : List W} (h : RvL K G α vs ws) : RvL K G α vs.dropLast ws.dropLast := by
  rw [List.dropLast_eq_take, List.dropLast_eq_take, h.len]
  exact h.take _
/-- the first place where one is -/
def firstD (x : PyData) : List PyData → Option Nat
  | [] => none
  | z :: r => if PyData.eqv z x = true then some 0 else (firstD x r).map (· + 1)
theorem firstD_at {x : PyData} : ∀ {ds : List PyData} {j : Nat}, firstD x ds = some j → ∃ z, ds[j]? = some z ∧ PyData.eqv z x = true ∧ ∀ (m : Nat) (z' : PyData), m < j → ds[m]? = some z' → PyData.eqv z' x = false
  | [], j, h => by cases h
  | z :: r, j, h => by
    unfold firstD at h
    split at h
    · next c =>
      cases h
      exact ⟨z, rfl, c, fun m z' hm => absurd hm (Nat.not_lt_zero m)⟩
    · next c =>
      cases e : firstD x r with
      | none => rw [e] at h; cases h
      | some i =>
        rw [e] at h
        cases h
        obtain ⟨z1, h1, h2, h3⟩ := firstD_at e
        refine ⟨z1, h1, h2, fun m z' hm e' => ?_⟩
        cases m with
        | zero =>
          simp only [List.getElem?_cons_zero, Option.some.injEq] at e'
          subst e'
          simpa using c
        | succ m =>
          have hm : m + 1 < i + 1 := hm
          exact h3 m z' (by omega) (by simpa using e')
/-- xs.index(x) -/
def dIndexL : DM := fun x xs O R => match xs with
  | [.d y] => (match asL x O with
    | some ws => (match datas ws with
      | some ds => flatD y = true ∧ ds.all flatD = true ∧ (match firstD y ds with
        | some j => R (.d (.int (j : Nat))) O
        | none => False)
      | none => False)
    | none => False)
  | _ => False
theorem index_flat {G : Hp} {ds : List PyData} {vs : List V} {y : PyData} {v : V} {j : Nat} (ra : RpL K G vs ds) (ry : Rp K G v y) (fy : flatD y = true) (fd : ds.all flatD = true) (h : firstD y ds = some j) :
    ∃ z, vs[j]? = some z ∧ eqV z v = true ∧ ∀ (m : Nat) (z' : V), m < j → vs[m]? = some z' → eqV z' v = false := by
  obtain ⟨d, h1, h2, h3⟩ := firstD_at h
  rw [List.all_eq_true] at fd
  obtain ⟨z, hz, rz⟩ := ra.get h1
  refine ⟨z, hz, by rw [eqV_ok rz ry (fd d (List.mem_of_getElem? h1)) fy]; exact h2, fun m z' hm e => ?_⟩
  have hl := ra.length
  have hm' : m < ds.length := by
    have := (List.getElem?_eq_some_iff.mp e).1
    omega
  obtain ⟨w, hw, rw'⟩ := ra.get (List.getElem?_eq_getElem hm')
  rw [e] at hw
  cases hw
  rw [eqV_ok rw' ry (fd _ (List.getElem_mem hm')) fy]
  exact h3 m _ hm (List.getElem?_eq_getElem hm')
theorem s_indexL : MtS K mg dIndexL (rIndex K) := by
  intro G α O H x xs v vs R Q rel r1 rl h p
  unfold dIndexL at h
  split at h
  · split at h
    · next ws ew =>
      split at h
      · next ds ed =>
        obtain ⟨fy, fd, h⟩ := h
        split at h
        · next j ej =>
          obtain ⟨u, rfl, ru⟩ := rv1 rl
          obtain ⟨a, us, rfl, hs, ra⟩ := asL_ok rel r1 ew
          rw [datas_eq ed] at ra
          have rd := ra.toD
          obtain ⟨z, h1, h2, h3⟩ := index_flat rd ru fy fd ej
          exact ⟨a, us, u, j, z, rfl, rfl, SqL.of hs, flat_ok ru fy, flats_ok rd fd, h1, h2, h3, p.here h rel (.int _)⟩
        · exact h.elim
      · exact h.elim
    · exact h.elim
  · exact h.elim
/-- xs.remove(x) -/
def dRemove : DM := fun x xs O R => match x, xs with
  | .c j, [.d y] => (match O[j]? with
    | some (.lst ws) => (match datas ws with
      | some ds => flatD y = true ∧ ds.all flatD = true ∧ (match firstD y ds with
        | some m => R (.d .none) (O.set j (.lst (ws.eraseIdx m)))
        | none => False)
      | none => False)
    | _ => False)
  | _, _ => False
/-- list.remove of flat things -/
def rRemF : V → List V → Hp → VK → Prop := fun x xs H Q => ∃ (l : Addr) (ys : List V) (y z : V) (j : Nat), x = .ref l ∧ xs = [y] ∧ H l = some (.lst ys) ∧ flatV y = true ∧ ys.all flatV = true ∧ ys[j]? = some z ∧ eqV z y = true ∧
  (∀ (m : Nat) (z' : V), m < j → ys[m]? = some z' → eqV z' y = false) ∧ Q .non (upd H l (.lst (ys.eraseIdx j)))
theorem mt_removeF : MtM X "list.remove" rRemF := by
  intro pins s σ H x xs v us Q I rx rxs h
  obtain ⟨l, ys, y, z, j, rfl, rfl, hH, fy, fys, hj, hz, hno, q⟩ := h
  cases rx
  obtain ⟨u, rfl, ru⟩ := rxs.one
  obtain ⟨z1, its, n, r, hl, e⟩ := I.lstM hH
  obtain ⟨w, hw, rw'⟩ := r.get hj
  have hjl : j < its.toArray.size := by
    have := (List.getElem?_eq_some_iff.mp hw).1
    simpa using this
  have atE : ∀ (m : Nat) (hm : m < its.toArray.size) (z' : V), ys[m]? = some z' → eqU y its.toArray[m] = eqV z' y := fun m hm z' hz' => by
    obtain ⟨w', hw', rw2⟩ := r.get hz'
    obtain ⟨_, e2⟩ := List.getElem?_eq_some_iff.mp hw'
    have e3 : its.toArray[m] = w' := by simpa using e2
    rw [e3, eqU_of rw2 (flat_at fys hz')]
  refine call_meets PySem.F.slot_list_remove ⟨_, e, rfl⟩ PySem.F.entry_list_remove (PySem.F.args_list_remove_2 _ _)
    (PySem.SeqAt.list_removeAt l its.toArray n none #[] u (eqU y) j hjl ?_ ?_ (by rw [List.size_toArray]; omega)) ⟨e, fun w hw => mem_eqAt ru fy r fys w (by simpa using hw), ?_⟩
  · rw [atE j hjl z hj]
    exact hz
  · intro m hm hmj
    have hmy : m < ys.length := by
      rw [List.size_toArray] at hm
      omega
    rw [atE m hm _ (List.getElem?_eq_getElem hmy)]
    exact hno m _ hmj (List.getElem?_eq_getElem hmy)
  · refine ⟨.non, _, I.lset (its' := its.eraseIdx j) (t' := s.toks) hH e ?_ (r.eraseIdx j) ?_, rfl, q⟩
    · show its.toArray.eraseIdxIfInBounds j = (its.eraseIdx j).toArray
      rw [List.eraseIdxIfInBounds_toArray]
    · have := List.length_eraseIdx_le ys j
      omega
theorem RvL.back {G : Hp} {α : Al} : ∀ {vs : List V} {ws : List W} {ds : List PyData}, RvL K G α vs ws → datas ws = some ds → RpL K G vs ds := fun r e => by
  rw [datas_eq e] at r
  exact r.toD
theorem s_remove : MtS K mg dRemove rRemF := by
  intro G α O H x xs v vs R Q rel r1 rl h p
  unfold dRemove at h
  split at h
  · next j y =>
    split at h
    · next ws ej =>
      split at h
      · next ds ed =>
        obtain ⟨fy, fd, h⟩ := h
        split at h
        · next m em =>
          obtain ⟨u, rfl, ru⟩ := rv1 rl
          obtain ⟨a, ha, rfl⟩ := r1
          obtain ⟨g0, us, hH, rw'⟩ := rel.at_ j a _ ha ej
          have rd := rw'.back ed
          obtain ⟨z, h1, h2, h3⟩ := index_flat rd ru fy fd em
          exact ⟨a, us, u, z, m, rfl, rfl, hH, flat_ok ru fy, flats_ok rd fd, h1, h2, h3, p.wr rel ha ej g0 hH (rw'.eraseIdx m) (show Rv K G α .non (.d .none) from Rp.non) h⟩
        · exact h.elim
      · exact h.elim
    · exact h.elim
  · exact h.elim
end
end Dl
namespace Dl
open PySem PySem.Spec PyProof.Rows L2
/-! #### dicts: what is in one -/
section
variable {κ : Type} [DecidableEq κ]
def valW (kvs : List (κ × W)) (k : κ) : Option W := (kvs.find? fun kv => decide (kv.1 = k)).map (·.2)
def putW (kvs : List (κ × W)) (k : κ) (v : W) : List (κ × W) :=
  if (kvs.any fun kv => decide (kv.1 = k)) = true then kvs.map (fun kv => if kv.1 = k then (kv.1, v) else kv) else kvs ++ [(k, v)]
def dropW (kvs : List (κ × W)) (k : κ) : List (κ × W) := kvs.filter fun kv => decide (kv.1 ≠ k)
variable {K : Fg} {G : Hp} {α : Al}
theorem RK.len : ∀ {vs : List (κ × V)} {ws : List (κ × W)}, RK K G α vs ws → vs.length = ws.length
  | _, _, .nil => rfl
  | _, _, .cons _ t => by rw [List.length_cons, List.length_cons, RK.len t]
theorem RK.val (k : κ) : ∀ {vs : List (κ × V)} {ws : List (κ × W)}, RK K G α vs ws → (valV vs k = none ∧ valW ws k = none) ∨ ∃ v w, valV vs k = some v ∧ valW ws k = some w ∧ Rv K G α v w
  | _, _, .nil => .inl ⟨rfl, rfl⟩
  | (a, v) :: l, (b, w) :: m, .cons ⟨e, r⟩ t => by
    have e : a = b := e
    subst e
    by_cases h : a = k
    · subst h
      exact .inr ⟨v, w, valV_pos (p := (a, v)) rfl, by simp [valW, List.find?_cons], r⟩
    · have e1 : valV ((a, v) :: l) k = valV l k := valV_neg (p := (a, v)) h
      have e2 : valW ((a, w) :: m) k = valW m k := by simp [valW, List.find?_cons, h]
      rw [e1, e2]
      exact RK.val k t
theorem RK.any (k : κ) : ∀ {vs : List (κ × V)} {ws : List (κ × W)}, RK K G α vs ws → (vs.any fun kv => decide (kv.1 = k)) = (ws.any fun kv => decide (kv.1 = k))
  | _, _, .nil => rfl
  | _, _, .cons h t => by rw [List.any_cons, List.any_cons, RK.any k t, h.1]
theorem RK.app {us : List (κ × V)} {zs : List (κ × W)} (h : RK K G α us zs) : ∀ {vs : List (κ × V)} {ws : List (κ × W)}, RK K G α vs ws → RK K G α (vs ++ us) (ws ++ zs)
  | _, _, .nil => h
  | _, _, .cons q t => .cons q (RK.app h t)
theorem RK.map1 {k : κ} {v : V} {w : W} (r : Rv K G α v w) : ∀ {vs : List (κ × V)} {ws : List (κ × W)}, RK K G α vs ws → RK K G α (vs.map fun kv => if kv.1 = k then (kv.1, v) else kv) (ws.map fun kv => if kv.1 = k then (kv.1, w) else kv)
  | _, _, .nil => .nil
  | (a, x) :: _, (b, y) :: _, .cons h t => by
    refine .cons ?_ (RK.map1 r t)
    have e : a = b := h.1
    subst e
    show (if a = k then (a, v) else (a, x)).1 = (if a = k then (a, w) else (a, y)).1 ∧ Rv K G α (if a = k then (a, v) else (a, x)).2 (if a = k then (a, w) else (a, y)).2
    by_cases z : a = k
    · rw [if_pos z, if_pos z]
      exact ⟨rfl, r⟩
    · rw [if_neg z, if_neg z]
      exact h
theorem RK.put {k : κ} {v : V} {w : W} (r : Rv K G α v w) {vs : List (κ × V)} {ws : List (κ × W)} (h : RK K G α vs ws) : RK K G α (putK vs k v) (putW ws k w) := by
  unfold putK putW
  rw [h.any k]
  by_cases z : (ws.any fun kv => decide (kv.1 = k)) = true
  · rw [if_pos z, if_pos z]
    exact h.map1 r
  · rw [if_neg z, if_neg z]
    exact RK.app (.cons ⟨rfl, r⟩ .nil) h
theorem RK.drop (k : κ) : ∀ {vs : List (κ × V)} {ws : List (κ × W)}, RK K G α vs ws → RK K G α (dropK vs k) (dropW ws k)
  | _, _, .nil => .nil
  | (a, x) :: _, (b, y) :: _, .cons h t => by
    have e : a = b := h.1
    subst e
    unfold dropK dropW
    rw [List.filter_cons, List.filter_cons]
    show RK K G α (if decide (a ≠ k) = true then _ else _) (if decide (a ≠ k) = true then _ else _)
    by_cases z : decide (a ≠ k) = true
    · rw [if_pos z, if_pos z]
      exact .cons h (RK.drop k t)
    · rw [if_neg z, if_neg z]
      exact RK.drop k t
end
/-- a dict that never changes -/
def keysD : List (PyData × PyData) → Option (List (Key × W))
  | [] => some []
  | (.int i, d) :: r => match keysD r with
    | some kvs => some ((.inl i, .d d) :: kvs)
    | none => none
  | (.str x, d) :: r => match keysD r with
    | some kvs => some ((.inr x, .d d) :: kvs)
    | none => none
  | _ :: _ => none
def asDk : W → Oh → Option (List (Key × W))
  | .d (.dict kvs), _ => keysD kvs
  | .c j, O => match O[j]? with
    | some (.dic kvs) => some kvs
    | some (.ldic _ _ kvs) => some kvs
    | _ => none
  | _, _ => none
def asDt : W → Oh → Option (List (List Key × W))
  | .c j, O => match O[j]? with
    | some (.dct kvs) => some kvs
    | some (.ldct _ _ kvs) => some kvs
    | _ => none
  | _, _ => none
def keyW : W → Option Key
  | .d (.int i) => some (.inl i)
  | .d (.str x) => some (.inr x)
  | _ => none
def keyT : W → Option (List Key)
  | .k ks => some ks
  | _ => none
section
variable {K : Fg} {mg : Str → Option Value} {G : Hp} {α : Al} {O : Oh} {H : Hp}
theorem keysD_ok : ∀ {ds : List (PyData × PyData)} {es : List (Key × V)} {kvs : List (Key × W)}, RpK K G es ds → keysD ds = some kvs → RK K G α es kvs
  | [], _, _, h, e => by
    cases h
    cases e
    exact .nil
  | (q, d) :: r, _, _, h, e => by
    cases h with
    | @cons k v es _ _ _ e0 ok rp t =>
      subst e0
      cases k with
      | inl i =>
        unfold keyD keysD at e
        split at e
        · next kvs e2 => cases e; exact .cons ⟨rfl, rp⟩ (keysD_ok t e2)
        · cases e
      | inr x =>
        unfold keyD keysD at e
        split at e
        · next kvs e2 => cases e; exact .cons ⟨rfl, rp⟩ (keysD_ok t e2)
        · cases e
theorem asDk_ok {v : V} {x : W} {kvs : List (Key × W)} (rel : Rel K mg G α O H) (r : Rv K G α v x) (h : asDk x O = some kvs) : ∃ a es, v = .ref a ∧ Rd H a (.dK es) ∧ RK K G α es kvs := by
  unfold asDk at h
  split at h
  · next ds _ =>
    cases r with
    | scr ns hs => cases h
    | dk hg hk => exact ⟨_, _, rfl, .inr ⟨_, rel.ex _ _ hg⟩, keysD_ok hk h⟩
  · next O' j =>
    obtain ⟨a, ha, rfl⟩ := r
    split at h
    · next ws e =>
      cases h
      obtain ⟨_, es, hH, rk⟩ := rel.at_ j a _ ha e
      exact ⟨a, es, rfl, .inl hH, rk⟩
    · next ob es ws e =>
      cases h
      obtain ⟨_, hH, rk⟩ := rel.at_ j a _ ha e
      exact ⟨a, es, rfl, .inr ⟨ob, hH⟩, rk⟩
    · cases h
  · cases h
theorem asDt_ok {v : V} {x : W} {kvs : List (List Key × W)} (rel : Rel K mg G α O H) (r : Rv K G α v x) (h : asDt x O = some kvs) : ∃ a es, v = .ref a ∧ Rd H a (.dT es) ∧ RK K G α es kvs := by
  unfold asDt at h
  split at h
  · next O' j =>
    obtain ⟨a, ha, rfl⟩ := r
    split at h
    · next ws e =>
      cases h
      obtain ⟨_, es, hH, rk⟩ := rel.at_ j a _ ha e
      exact ⟨a, es, rfl, .inl hH, rk⟩
    · next ob es ws e =>
      cases h
      obtain ⟨_, hH, rk⟩ := rel.at_ j a _ ha e
      exact ⟨a, es, rfl, .inr ⟨ob, hH⟩, rk⟩
    · cases h
  · cases h
theorem keyW_ok {v : V} {x : W} {k : Key} (r : Rv K G α v x) (h : keyW x = some k) : v = kV k ∧ keyOk k = true := by
  unfold keyW at h
  split at h
  · cases h
    cases r
    exact ⟨rfl, rfl⟩
  · cases h
    cases r with | str _ o => exact ⟨rfl, o⟩
  · cases h
theorem keyT_ok {v : V} {x : W} {k : List Key} (r : Rv K G α v x) (h : keyT x = some k) : ∃ b, v = .ref b ∧ G b = some (.tup (k.map kV)) := by
  unfold keyT at h
  split at h
  · cases h
    obtain ⟨_, a, e, q⟩ := r
    exact ⟨a, e, q⟩
  · cases h
/-- what a dict tells of a key -/
def dGet (x y : W) (O : Oh) (k : Option W → Prop) : Prop := match asDk x O with
  | some kvs => (match keyW y with
    | some q => k (valW kvs q)
    | none => False)
  | none => (match asDt x O with
    | some kvs => (match keyT y with
      | some q => k (valW kvs q)
      | none => False)
    | none => False)
def isDictW (x : W) (O : Oh) : Bool := (asDk x O).isSome || (asDt x O).isSome
theorem dGet_ok {x y : W} {u v : V} {k : Option W → Prop} (rel : Rel K mg G α O H) (r1 : Rv K G α u x) (r2 : Rv K G α v y) (h : dGet x y O k) :
    ∃ a, u = .ref a ∧ ((DGet H a v none ∧ k none) ∨ ∃ z w, DGet H a v (some z) ∧ Rv K G α z w ∧ k (some w)) := by
  unfold dGet at h
  split at h
  · next kvs e =>
    split at h
    · next q eq =>
      obtain ⟨a, es, rfl, hr, rk⟩ := asDk_ok rel r1 e
      obtain ⟨rfl, _⟩ := keyW_ok r2 eq
      refine ⟨a, rfl, ?_⟩
      rcases rk.val q with ⟨e1, e2⟩ | ⟨z, w, e1, e2, r⟩
      · rw [e2] at h
        exact .inl ⟨.inl ⟨es, q, hr, rfl, e1.symm⟩, h⟩
      · rw [e2] at h
        exact .inr ⟨z, w, .inl ⟨es, q, hr, rfl, e1.symm⟩, r, h⟩
    · exact h.elim
  · split at h
    · next kvs e =>
      split at h
      · next q eq =>
        obtain ⟨a, es, rfl, hr, rk⟩ := asDt_ok rel r1 e
        obtain ⟨b, rfl, hb⟩ := keyT_ok r2 eq
        have hb' : H b = some (.tup (q.map kV)) := rel.ex _ _ hb
        refine ⟨a, rfl, ?_⟩
        rcases rk.val q with ⟨e1, e2⟩ | ⟨z, w, e1, e2, r⟩
        · rw [e2] at h
          exact .inl ⟨.inr ⟨es, q, b, hr, rfl, hb', e1.symm⟩, h⟩
        · rw [e2] at h
          exact .inr ⟨z, w, .inr ⟨es, q, b, hr, rfl, hb', e1.symm⟩, r, h⟩
      · exact h.elim
    · exact h.elim
end
/-! #### a[b], of dicts too -/
def rIxD : R2 := fun x y H Q => ∃ a v, x = .ref a ∧ DGet H a y (some v) ∧ Q v H
theorem isD_of {H : Hp} {a : Addr} {y : V} {o : Option V} (g : DGet H a y o) : IsD H a := by
  rcases g with ⟨kvs, k, e, _, _⟩ | ⟨kvs, k, b, e, _, _, _⟩
  · exact .inl ⟨_, e⟩
  · exact .inr ⟨_, e⟩
theorem ix_dict {X : Cx} (hu : X.A.units + 1 < cLine) : IxR X rIxD := by
  intro value slice pins s σ H x y v u Q I rx ry h hs
  obtain ⟨a, z, ex, g, q⟩ := h
  subst ex
  obtain rfl : v = Value.ref a := rx
  obtain ⟨t1, t2, t3⟩ := isD_at I (isD_of g)
  have got : wpAny (model X.prog X.w) X.A (getItem (.ref a) u) (EP X pins σ Q) X.xe s := d_getItem hu I g ry fun w' s' I' r' => ⟨z, H, I', r', q⟩
  show wpAny _ _ (subscriptTail value slice (.ref a) u) _ _ s
  unfold subscriptTail
  refine wpAny_bind ?_
  rw [getitemInPython_of_ne t1.not_modules]
  refine wpAny_bind (wpAny_specialOf t1 PySem.F.slot_dict_getitem.lookup ?_)
  have last : wpAny (model X.prog X.w) X.A (subscripted slice false (.ref a) u) (fun r s₃ => wpAny (model X.prog X.w) X.A (letTemporaryGo value (.ref a) r >>= fun _ => pure r) (EP X pins σ Q) X.xe s₃) X.xe s := by
    rw [hs]
    refine wpAny_operating (wpAny_mono got (fun r s₃ x => ?_) fun _ _ x => x)
    exact wpAny_bind (wpAny_letTemporaryGo (wpAny_pure x))
  first | exact wpAny_pure (wpAny_bind last) | exact wpAny_bind (wpAny_pure (wpAny_bind last)) | exact wpAny_bind last
def dIx2 : D2 := fun x y O R => if isDictW x O = true then dGet x y O (fun o => match o with
  | some w => R w O
  | none => False) else dIx x y O R
section
variable {K : Fg} {mg : Str → Option Value}
theorem s_ix2 : OpS K mg dIx2 (fun x y H Q => rIxD x y H Q ∨ rIx K x y H Q) := by
  intro G α O H x y u v R Q rel r1 r2 h p
  unfold dIx2 at h
  split at h
  · obtain ⟨a, rfl, h⟩ := dGet_ok rel r1 r2 h
    rcases h with ⟨_, h⟩ | ⟨z, w, g, r, h⟩
    · exact h.elim
    · exact .inl ⟨a, z, rfl, g, p.here h rel r⟩
  · exact .inr (s_ix _ _ _ _ _ _ _ _ _ _ rel r1 r2 h p)
end
section
variable {X : Cx} {Wx : WX} {k : Nat} {a b c e : Expr} {wa wb wc we : DEx} {pos p2 : Pos}
theorem de_ix2 (g : Good X Wx k) (ha : DE X Wx a wa) (hb : DE X Wx b wb) (hs : PlainIx b := by intro _ _; rfl) : DE X Wx (.Subscript a b pos) (dOp dIx2 wa wb) :=
  pe_imp (fun _ _ _ h => lift_op s_ix2 h) (pe_ix ((ix_dict (hu_of g.rm)).or ix_seq) ha hb hs)
end
/-! #### in, of dicts and of any data -/
def rInDk (neg : Bool) : R2 := fun x y H Q => ∃ a o, y = .ref a ∧ DGet H a x o ∧ Q (.bl (if neg then !o.isSome else o.isSome)) H
theorem op_in_dict {X : Cx} (hu : X.A.units + 1 < cLine) : OpR X (compareOp .In) (rInDk false) := by
  intro pins s σ H x y v u Q I rx ry h
  obtain ⟨a, o, ey, g, q⟩ := h
  subst ey
  obtain rfl : u = Value.ref a := ry
  exact d_in hu I g rx fun s' I' => ⟨.bl o.isSome, H, I', rfl, q⟩
theorem op_notin_dict {X : Cx} (hu : X.A.units + 1 < cLine) : OpR X (compareOp .NotIn) (rInDk true) := by
  intro pins s σ H x y v u Q I rx ry h
  obtain ⟨a, o, ey, g, q⟩ := h
  subst ey
  obtain rfl : u = Value.ref a := ry
  exact d_notIn hu I g rx fun s' I' => ⟨.bl (!o.isSome), H, I', rfl, q⟩
/-- in a list or a tuple of data -/
def rInAny (K : Fg) (neg : Bool) : R2 := fun x y H Q => ∃ d ds e, Dp K H x d ∧ Dp K H y e ∧ (e = .list ds ∨ e = .tuple ds) ∧ d.plain = true ∧ PyData.plainAll ds = true ∧ d.depth ≤ 64 ∧
  Q (.bl (if neg then !(ds.any fun z => PyData.eqv z d) else ds.any fun z => PyData.eqv z d)) H
theorem op_in_any {X : Cx} (hu : X.A.units + 100 < cLine) : OpR X (compareOp .In) (rInAny X.K false) := by
  intro pins s σ H x y v u Q I rx ry h
  obtain ⟨d, ds, e, hd, hy, he, p1, p2, hz, q⟩ := h
  obtain ⟨as, r1⟩ := Dp.reads I d x v hd rx
  obtain ⟨bs, r2⟩ := Dp.reads I e y u hy ry
  have hm : min (PyData.depthAll ds) d.depth ≤ 64 := Nat.le_trans (Nat.min_le_right _ _) hz
  rcases he with rfl | rfl
  · exact SeqAt.in_list_data r2 r1 p2 p1 (by omega) ⟨.bl (ds.any fun z => PyData.eqv z d), H, I, rfl, q⟩
  · exact SeqAt.in_tuple_data r2 r1 p2 p1 (by omega) ⟨.bl (ds.any fun z => PyData.eqv z d), H, I, rfl, q⟩
theorem op_notin_any {X : Cx} (hu : X.A.units + 100 < cLine) : OpR X (compareOp .NotIn) (rInAny X.K true) := by
  intro pins s σ H x y v u Q I rx ry h
  obtain ⟨d, ds, e, hd, hy, he, p1, p2, hz, q⟩ := h
  obtain ⟨as, r1⟩ := Dp.reads I d x v hd rx
  obtain ⟨bs, r2⟩ := Dp.reads I e y u hy ry
  have hm : min (PyData.depthAll ds) d.depth ≤ 64 := Nat.le_trans (Nat.min_le_right _ _) hz
  rcases he with rfl | rfl
  · exact SeqAt.notIn_list_data r2 r1 p2 p1 (by omega) ⟨.bl (!(ds.any fun z => PyData.eqv z d)), H, I, rfl, q⟩
  · exact SeqAt.notIn_tuple_data r2 r1 p2 p1 (by omega) ⟨.bl (!(ds.any fun z => PyData.eqv z d)), H, I, rfl, q⟩
theorem hu100 {A : Around} {k : Nat} (r : Room k A) : A.units + 100 < cLine := by have := r.un; omega
mutual
theorem shp_plain : ∀ (n : Nat) (d : PyData), shp n d = true → d.plain = true
  | n, .none, _ => rfl
  | n, .bool _, _ => rfl
  | n, .int _, _ => rfl
  | n, .str _, _ => rfl
  | 0, .list ds, h => by cases h
  | n + 1, .list ds, h => by simpa only [PyData.plain] using shp_plains n ds h
  | 0, .tuple ds, h => by cases h
  | n + 1, .tuple ds, h => by simpa only [PyData.plain] using shp_plains n ds h
  | 0, .dict _, h => by cases h
  | n + 1, .dict _, h => by cases h
theorem shp_plains : ∀ (n : Nat) (ds : List PyData), ds.all (shp n) = true → PyData.plainAll ds = true
  | n, [], _ => rfl
  | n, d :: ds, h => by
    rw [List.all_cons, Bool.and_eq_true] at h
    simp only [PyData.plainAll, Bool.and_eq_true]
    exact ⟨shp_plain n d h.1, shp_plains n ds h.2⟩
end
def seqD : PyData → Option (List PyData)
  | .list ds => some ds
  | .tuple ds => some ds
  | _ => none
def dIn2 (neg : Bool) : D2 := fun x y O R => if isDictW y O = true then dGet y x O (fun o => R (.d (.bool (if neg then !o.isSome else o.isSome))) O) else
  match x, y with
  | .d (.str i), .d (.str j) => R (.d (.bool (if neg then !strIn i j else strIn i j))) O
  | x, y => (match asD x O, asD y O with
    | some d, some e => (match seqD e with
      | some ds => shp 40 d = true ∧ shp 40 e = true ∧ R (.d (.bool (if neg then !(ds.any fun z => PyData.eqv z d) else ds.any fun z => PyData.eqv z d))) O
      | none => False)
    | _, _ => False)
theorem seqD_shp {e : PyData} {ds : List PyData} {n : Nat} (h : seqD e = some ds) (hs : shp (n + 1) e = true) : (e = .list ds ∨ e = .tuple ds) ∧ ds.all (shp n) = true := by
  cases e <;> first | (cases h; done) | skip
  · cases h; exact ⟨.inl rfl, hs⟩
  · cases h; exact ⟨.inr rfl, hs⟩
section
variable {K : Fg} {mg : Str → Option Value}
theorem s_in2 {neg : Bool} : OpS K mg (dIn2 neg) (fun x y H Q => rInS2 neg x y H Q ∨ rInDk neg x y H Q ∨ rInAny K neg x y H Q) := by
  intro G α O H x y u v R Q rel r1 r2 h p
  unfold dIn2 at h
  split at h
  · obtain ⟨a, rfl, h⟩ := dGet_ok rel r2 r1 h
    refine .inr (.inl ?_)
    rcases h with ⟨g, h⟩ | ⟨z, w, g, r, h⟩
    · exact ⟨a, none, rfl, g, p.here h rel (.bl _)⟩
    · exact ⟨a, some z, rfl, g, p.here h rel (.bl _)⟩
  · split at h
    · cases r1
      cases r2
      exact .inl ⟨_, _, rfl, rfl, p.here h rel (.bl _)⟩
    · next x y _ =>
      split at h
      · next d e e1 e2 =>
        split at h
        · next ds es =>
          obtain ⟨d1, s1⟩ := asD_ok rel r1 e1 h.1
          obtain ⟨d2, s2⟩ := asD_ok rel r2 e2 h.2.1
          obtain ⟨q1, q2⟩ := seqD_shp es h.2.1
          exact .inr (.inr ⟨d, ds, e, d1, d2, q1, shp_plain 40 d h.1, shp_plains 39 ds q2, Nat.le_trans (shp_depth 40 d h.1) (by decide), p.here h.2.2 rel (.bl _)⟩)
        · exact h.elim
      · exact h.elim
end
section
variable {X : Cx} {Wx : WX} {k : Nat}
theorem op_in5 (g : Good X Wx k) : OpR X (compareOp .In) (fun x y H Q => rInS2 false x y H Q ∨ rInDk false x y H Q ∨ rInAny X.K false x y H Q) := or_op op_in_str (or_op (op_in_dict (hu_of g.rm)) (op_in_any (hu100 g.rm)))
theorem op_notin5 (g : Good X Wx k) : OpR X (compareOp .NotIn) (fun x y H Q => rInS2 true x y H Q ∨ rInDk true x y H Q ∨ rInAny X.K true x y H Q) := or_op op_notIn_str (or_op (op_notin_dict (hu_of g.rm)) (op_notin_any (hu100 g.rm)))
end
/-! #### {} and d[k] = e -/
/-- a dict that will change, its keys ints and texts; tuples -/
def dDicK : DEx := fun _ O R _ => R (.c O.length) (O ++ [.dic []])
def dDicT : DEx := fun _ O R _ => R (.c O.length) (O ++ [.dct []])
/-- an empty dict that never changes -/
def dDicE : DEx := fun _ O R _ => R (.d (.dict [])) O
section
variable {X : Cx} {Wx : WX} {k : Nat} {a b c e : Expr} {wa wb wc we : DEx} {pos p2 : Pos}
theorem de_dicK : DE X Wx (.Dict [] [] pos) dDicK := by
  refine pe_imp (fun σ H Q ⟨G, α, Γ, O, R, xe, sl, rel, h, p, xp⟩ => ?_) pe_dnewK
  intro q hq
  have rel2 := rel.cell (o := .dK []) (c := .dic []) hq (fun b z => by cases z) ⟨rel.ex.free hq, [], upd_same, .nil⟩
  exact p _ _ h _ _ _ _ (Ex.refl _) Pre.push rel2 ⟨q, pre_len rel.len, rfl⟩
/-! #### a dict is frozen -/
/-- o[i] = v, of a list or a dict -/
def dPutIx (o i v : W) (O : Oh) (k : Oh → Prop) : Prop := match o with
  | .c j => (match O[j]? with
    | some (.lst ws) => (match i with
      | .d (.int n) => (match ixN ws.length n with
        | some m => k (O.set j (.lst (ws.set m v)))
        | none => False)
      | _ => False)
    | some (.dic kvs) => (match keyW i with
      | some q => kvs.length < 1000000 ∧ k (O.set j (.dic (putW kvs q v)))
      | none => False)
    | some (.dct kvs) => (match keyT i with
      | some q => kvs.length < 1000000 ∧ k (O.set j (.dct (putW kvs q v)))
      | none => False)
    | _ => False)
  | _ => False
def dSetI (wo wi we : DEx) : DSt := fun D xe Γ O => we Γ O (fun v O1 => wo Γ O1 (fun o O2 => wi Γ O2 (fun i O3 => dPutIx o i v O3 fun O4 => D.nx Γ O4) xe) xe) xe
theorem putIx_ok {K : Fg} {mg : Str → Option Value} {G : Hp} {α : Al} {O : Oh} {H : Hp} {o i v : W} {ov iv vv : V} {k : Oh → Prop} {Q : Hp → Prop} (rel : Rel K mg G α O H) (r1 : Rv K G α ov o) (r2 : Rv K G α iv i) (r3 : Rv K G α vv v) (h : dPutIx o i v O k)
    (q : ∀ O' H', k O' → Rel K mg G α O' H' → Q H') : rSetL ov iv vv H Q ∨ rSetD ov iv vv H Q := by
  unfold dPutIx at h
  split at h
  · next j =>
    obtain ⟨a, ha, rfl⟩ := r1
    split at h
    · next ws ej =>
      split at h
      · next n =>
        split at h
        · next m em =>
          cases r2
          obtain ⟨g0, vs, hH, rl⟩ := rel.at_ j a _ ha ej
          refine .inl ⟨a, vs, n, m, rfl, rfl, hH, by rw [rl.len]; exact em, ?_⟩
          exact q _ _ h (rel.write (o := .lst (vs.set m vv)) (c := .lst (ws.set m v)) ha ej hH g0 (fun b z => by cases z) (fun b z => by cases z) ⟨g0, _, upd_same, rl.set r3 m⟩)
        · exact h.elim
      · exact h.elim
    · next kvs ej =>
      split at h
      · next y ey =>
        obtain ⟨rfl, _⟩ := keyW_ok r2 ey
        obtain ⟨g0, es, hH, rk⟩ := rel.at_ j a _ ha ej
        refine .inr ⟨a, _, rfl, DPut.k hH (by rw [rk.len]; exact szlt h.1), ?_⟩
        exact q _ _ h.2 (rel.write (o := .dK (putK es y vv)) (c := .dic (putW kvs y v)) ha ej hH g0 (fun b z => by cases z) (fun b z => by cases z) ⟨g0, _, upd_same, rk.put r3⟩)
      · exact h.elim
    · next kvs ej =>
      split at h
      · next y ey =>
        obtain ⟨b, rfl, hb⟩ := keyT_ok r2 ey
        obtain ⟨g0, es, hH, rk⟩ := rel.at_ j a _ ha ej
        refine .inr ⟨a, _, rfl, DPut.t hH (rel.ex _ _ hb) (by rw [rk.len]; exact szlt h.1), ?_⟩
        exact q _ _ h.2 (rel.write (o := .dT (putK es y vv)) (c := .dct (putW kvs y v)) ha ej hH g0 (fun b z => by cases z) (fun b z => by cases z) ⟨g0, _, upd_same, rk.put r3⟩)
      · exact h.elim
    · exact h.elim
  · exact h.elim
theorem set_or {t t' : TSet} (h : PSet X t) (h' : PSet X t') : PSet X (fun o i v H Q => t o i v H Q ∨ t' o i v H Q) := by
  intro pins s σ H o i v ov iv u Q I r1 r2 r3 q
  rcases q with q | q
  · exact h pins s σ H o i v ov iv u Q I r1 r2 r3 q
  · exact h' pins s σ H o i v ov iv u Q I r1 r2 r3 q
theorem ds_setI (g : Good X Wx k) {pos' : Pos} (ho : DE X Wx a wa) (hi : DE X Wx b wb) (he : DE X Wx e we) (hs : swapsWithSole [.Subscript a b pos'] e pos.line X.env = pure false := by rfl) (hw : swappedStores [.Subscript a b pos'] e X.env = pure none := by rfl)
    (h1 : (assignEach [.Subscript a b pos'] X.env).map (·.2) = [assign (.Subscript a b pos') X.env] := by rfl)
    (hA : ∀ v, assign (.Subscript a b pos') X.env v = (do
      let ov ← holding [v] (eval a X.env)
      let iv ← holding [v, ov] (eval b X.env)
      standAt pos'
      holding [v, ov, iv] (setItem ov iv v)
      release [v, ov, iv] []) := by intro _; rfl) : DS X Wx (.Assign [.Subscript a b pos'] e pos) (dSetI wa wb we) := by
  refine ps_imp (fun D σ H ⟨G, α, Γ, O, DD, xe, sl, rel, h, p, xp⟩ => ?_) (ps_asg he (pg_sub ho hi (set_or set_list (set_dict (hu_of g.rm))) hA) hs hw h1)
  refine ⟨G, α, Γ, O, _, xe, sl, rel, h, fun y O1 h1 v G1 α1 H1 e1 p1 rel1 r1 => ?_, xp⟩
  refine ⟨G1, α1, Γ, O1, _, xe, sl.mono e1 p1, rel1, h1, fun o O2 h2 ov G2 α2 H2 e2 p2 rel2 r2 => ?_, xp.mono e1 p1⟩
  refine ⟨G2, α2, Γ, O2, _, xe, sl.mono (e1.trans e2) (p1.trans p2), rel2, h2, fun i O3 h3 iv G3 α3 H3 e3 p3 rel3 r3 => ?_, xp.mono (e1.trans e2) (p1.trans p2)⟩
  have e13 := e1.trans (e2.trans e3)
  have p13 := p1.trans (p2.trans p3)
  exact putIx_ok rel3 (r2.mono e3 p3) r3 (r1.mono (e2.trans e3) (p2.trans p3)) h3 fun O' H' q rel' => p.nx _ _ q _ _ _ _ e13 p13 rel' (sl.mono e13 p13)
end
/-! #### list(d) -/
def dListOf2 : DC := fun xs O R => match xs with
  | [x] => (match asDk x O with
    | some kvs => kvs.length ≤ 1000000 ∧ (kvs.map (·.1)).all keyOk = true ∧ R (.d (.list (kvs.map fun kv => keyD kv.1))) O
    | none => dListOf [x] O R)
  | _ => False
def dListC2 : DC := fun xs O R => match xs with
  | [x] => (match asDk x O with
    | some kvs => kvs.length ≤ 1000000 ∧ (kvs.map (·.1)).all keyOk = true ∧ R (.c O.length) (O ++ [.lst (kvs.map fun kv => .d (keyD kv.1))])
    | none => dListC [x] O R)
  | _ => False
abbrev rListD2 (K : Fg) : List V → Hp → VK → Prop := fun xs H Q => (∃ (a : Addr) (kvs : List (Key × V)), xs = [.ref a] ∧ Rd H a (.dK kvs) ∧ ∀ p, H p = none → Q (.ref p) (upd H p (.lst (kvs.map fun kv => kV kv.1)))) ∨ rListOf K xs H Q
section
variable {K : Fg} {mg : Str → Option Value}
theorem RK.keys {G : Hp} {α : Al} : ∀ {es : List (Key × V)} {kvs : List (Key × W)}, RK K G α es kvs → es.map (fun kv => kV kv.1) = (kvs.map (·.1)).map kV
  | _, _, .nil => rfl
  | _, _, .cons h t => by rw [List.map_cons, List.map_cons, List.map_cons, RK.keys t, h.1]
theorem keyD_map (kvs : List (Key × W)) : (kvs.map fun kv => keyD kv.1) = (kvs.map (·.1)).map keyD := by rw [List.map_map]; rfl
theorem s_listOf2 : CallS K mg dListOf2 (rListD2 K) := by
  intro G α O H xs vs R Q rel rl h p
  unfold dListOf2 at h
  split at h
  · next x =>
    split at h
    · next kvs e =>
      obtain ⟨v, rfl, rv⟩ := rv1 rl
      obtain ⟨a, es, rfl, hr, rk⟩ := asDk_ok rel rv e
      refine .inl ⟨a, es, rfl, hr, fun l hl => ?_⟩
      have ge := rel.ex.free hl
      refine p.lay h.2.2 rel hl (.lst upd_same ?_)
      rw [rk.keys, keyD_map]
      exact (RpL.keys h.2.1).mono (Ex.new ge)
    · exact .inr (s_listOf _ _ _ _ _ _ _ _ rel rl h p)
  · exact h.elim
theorem s_listC2 : CallS K mg dListC2 (rListD2 K) := by
  intro G α O H xs vs R Q rel rl h p
  unfold dListC2 at h
  split at h
  · next x =>
    split at h
    · next kvs e =>
      obtain ⟨v, rfl, rv⟩ := rv1 rl
      obtain ⟨a, es, rfl, hr, rk⟩ := asDk_ok rel rv e
      refine .inl ⟨a, es, rfl, hr, fun l hl => ?_⟩
      have rr : RvL K G α (es.map fun kv => kV kv.1) (kvs.map fun kv => .d (keyD kv.1)) := by
        have q := RvL.ofD (α := α) (RpL.keys (K := K) (G := G) h.2.1)
        rw [rk.keys]
        have e2 : (kvs.map fun kv => W.d (keyD kv.1)) = ((kvs.map (·.1)).map keyD).map W.d := by rw [List.map_map, List.map_map]; rfl
        rw [e2]
        exact q
      have rel2 := rel.cell (o := .lst (es.map fun kv => kV kv.1)) (c := .lst (kvs.map fun kv => .d (keyD kv.1))) hl (fun b z => by cases z) ⟨rel.ex.free hl, _, upd_same, rr.mono (Ex.refl _) Pre.push⟩
      exact p _ _ h.2.2 _ _ _ _ (Ex.refl _) Pre.push rel2 ⟨l, pre_len rel.len, rfl⟩
    · exact .inr (s_listC _ _ _ _ _ _ _ _ rel rl h p)
  · exact h.elim
end
theorem call_list2 {X : Cx} (hc : X.calm = true) : CallR X (.type "list") (rListD2 X.K) := or_call (call_listD hc) call_list_of
end Dl
namespace Dl
open PySem PySem.Spec PyProof.Rows L2
/-! #### isinstance with a built-in class -/
def tyW : W → Oh → Option String
  | .d .none, _ => some "NoneType"
  | .d (.bool _), _ => some "bool"
  | .d (.int _), _ => some "int"
  | .d (.str _), _ => some "str"
  | .d (.list _), _ => some "list"
  | .d (.tuple _), _ => some "tuple"
  | .d (.dict []), _ => some "dict"
  | .d (.dict ((.int _, _) :: _)), _ => some "dict"
  | .d (.dict ((.str _, _) :: _)), _ => some "dict"
  | .k _, _ => some "tuple"
  | .c j, O => match O[j]? with
    | some (.lst _) => some "list"
    | some (.dic _) => some "dict"
    | some (.dct _) => some "dict"
    | _ => none
  | _, _ => none
def subT (t T : String) : Bool := t == T || (t == "bool" && T == "int")
def dIsi (T : String) (we : DEx) : DEx := fun Γ O R xe => we Γ O (fun x O1 => match tyW x O1 with
  | some t => R (.d (.bool (subT t T))) O1
  | none => False) xe
/-! #### sorted -/
def alikeB (ds : List PyData) : Bool := ds.all fun d => ds.all fun e => PySem.W.alike d e
def sortableB (ds : List PyData) : Bool := (ds.all fun d => match d with
  | .tuple (_ :: _) => true
  | _ => false) || ds.all fun d => match d with
  | .none => false
  | .tuple _ => false
  | _ => true
def srtD (ds : List PyData) : List PyData := ds.mergeSort (PySem.W.dataLe false fun d => d)
def strsD : List PyData → Option (List Str)
  | [] => some []
  | .str x :: r => match strsD r with
    | some xs => some (x :: xs)
    | none => none
  | _ :: _ => none
theorem strsD_eq : ∀ {ds : List PyData} {xs : List Str}, strsD ds = some xs → ds = xs.map PyData.str
  | [], xs, h => by cases h; rfl
  | .str x :: r, xs, h => by
    unfold strsD at h
    split at h
    · next ys e => cases h; rw [strsD_eq e]; rfl
    · cases h
  | .none :: _, _, h => by cases h
  | .bool _ :: _, _, h => by cases h
  | .int _ :: _, _, h => by cases h
  | .list _ :: _, _, h => by cases h
  | .tuple _ :: _, _, h => by cases h
  | .dict _ :: _, _, h => by cases h
theorem strsD_map (xs : List Str) : strsD (xs.map PyData.str) = some xs := by
  induction xs with
  | nil => rfl
  | cons x xs ih => show (match strsD (xs.map PyData.str) with | some ys => some (x :: ys) | none => none) = _; rw [ih]
def keysStr : List Key → Option (List Str)
  | [] => some []
  | .inr x :: r => match keysStr r with
    | some xs => some (x :: xs)
    | none => none
  | _ :: _ => none
def dSorted : DC := fun xs O R => match xs with
  | [x] => (match asDk x O with
    | some kvs => (match keysStr (kvs.map (·.1)) with
      | some ks => ks.length < 64 ∧ ks.all PyData.strOk = true ∧ R (.d (.list (srtD (ks.map PyData.str)))) O
      | none => False)
    | none => (match asS x O with
      | some ws => (match datas ws with
        | some ds => alikeB ds = true ∧ sortableB ds = true ∧ ds.all (shp 40) = true ∧ R (.d (.list (srtD ds))) O
        | none => False)
      | none => False))
  | _ => False
end Dl
namespace Dl
open PySem PySem.Spec PyProof.Rows L2
/-! #### texts in order -/
def leS (a b : Str) : Bool := decide (a.cps.toList ≤ b.cps.toList)
theorem dataLe_strs (a b : Str) : PySem.W.dataLe false (fun d => d) (.str a) (.str b) = leS a b := congrFun (congrFun (PySem.W.dataLe_str (β := Str) fun x => x) a) b
def srtS (xs : List Str) : List Str := xs.mergeSort leS
theorem srtD_strs (xs : List Str) : srtD (xs.map PyData.str) = (srtS xs).map PyData.str := by
  unfold srtD srtS
  exact (List.map_mergeSort fun a _ b _ => (dataLe_strs a b).symm).symm
/-! ints -/
def leI (a b : Int) : Bool := decide (a ≤ b)
/-! #### sep.join(texts) -/
def dJoin (wo wa : DEx) : DEx := fun Γ O R xe => wo Γ O (fun o O1 => match o with
  | .d (.str z) => wa Γ O1 (fun x O2 => match asS x O2 with
    | some ws => (match datas ws with
      | some ds => (match strsD ds with
        | some ys => (ys.map (·.length)).sum + ys.length * z.length ≤ 1000000 ∧ R (.d (.str (Txt.join z ys))) O2
        | none => False)
      | none => False)
    | none => False) xe
  | _ => False) xe
theorem strOk_iff (x : Str) : PyData.strOk x = true ↔ ∀ c ∈ x.cps.toList, PyData.strOk ⟨#[c]⟩ = true := by
  unfold PyData.strOk
  rw [Array.all_eq_true_iff_forall_mem]
  constructor
  · intro h c hc
    have := h c (by simpa using hc)
    simpa using this
  · intro h c hc
    have := h c (by simpa using hc)
    simpa using this
theorem glue_list (z : Str) : ∀ (ps : List Str) (acc : Array Nat), (ps.foldl (fun acc p => acc ++ z.cps ++ p.cps) acc).toList = acc.toList ++ (ps.map fun p => z.cps.toList ++ p.cps.toList).flatten
  | [], acc => by simp
  | p :: ps, acc => by
    rw [List.foldl_cons, glue_list z ps]
    simp
/-- the codes of a join -/
theorem join_list (z : Str) (ys : List Str) : (Txt.join z ys).cps.toList = (ys.headD Str.empty).cps.toList ++ ((ys.drop 1).map fun p => z.cps.toList ++ p.cps.toList).flatten := glue_list z (ys.drop 1) (ys.headD Str.empty).cps
theorem join_cps (z : Str) (ys : List Str) (c : Nat) (hc : c ∈ (Txt.join z ys).cps.toList) : c ∈ z.cps.toList ∨ ∃ y ∈ ys, c ∈ y.cps.toList := by
  rw [join_list] at hc
  rcases List.mem_append.mp hc with hc | hc
  · cases ys with
    | nil => exact absurd hc (by show ¬ c ∈ (Str.empty).cps.toList; simp [Str.empty])
    | cons y ys => exact .inr ⟨y, List.mem_cons_self, hc⟩
  · obtain ⟨l, hl, hc⟩ := List.mem_flatten.mp hc
    obtain ⟨y, hy, rfl⟩ := List.mem_map.mp hl
    rcases List.mem_append.mp hc with hc | hc
    · exact .inl hc
    · exact .inr ⟨y, List.mem_of_mem_drop hy, hc⟩
theorem strOk_join {z : Str} {ys : List Str} (hz : PyData.strOk z = true) (hy : ys.all PyData.strOk = true) : PyData.strOk (Txt.join z ys) = true := by
  rw [strOk_iff]
  intro c hc
  rcases join_cps z ys c hc with h | ⟨y, hm, h⟩
  · exact (strOk_iff z).mp hz c h
  · exact (strOk_iff y).mp (List.all_eq_true.mp hy y hm) c h
section
variable {X : Cx} {Wx : WX} {k : Nat} {a b c e o : Expr} {wa wb wc we wo : DEx} {pos p2 apos cpos : Pos} {es : List Expr} {ws : DA}
theorem rpL_strs_inv {K : Fg} {G : Hp} : ∀ {ys : List Str} {vs : List V}, RpL K G vs (ys.map PyData.str) → vs = ys.map V.str ∧ ys.all PyData.strOk = true
  | [], _, h => by cases h; exact ⟨rfl, rfl⟩
  | y :: ys, _, h => by
    cases h with
    | cons h1 h2 =>
      cases h1 with
      | str _ ok =>
        obtain ⟨e, o⟩ := rpL_strs_inv h2
        exact ⟨by rw [e]; rfl, by rw [List.all_cons, ok, o]; rfl⟩
theorem de_join (ho : DE X Wx o wo) (ha : DE X Wx e we) (hs : starEach [e] X.env = [(false, eval e X.env)] := by rfl) (hbase : attributeBase o "join" X.env (eval o X.env) = eval o X.env := by rfl) (hline : (apos.endLine == pos.line) = true := by rfl) :
    DE X Wx (.Call (.Attribute o "join" apos) [e] [] pos) (dJoin wo we) := by
  refine pe_imp (fun σ H Q ⟨G, α, Γ, O, R, xe, sl, rel, h, p, xp⟩ => ?_) (pe_join ho ha hs hbase hline)
  refine ⟨G, α, Γ, O, _, xe, sl, rel, h, fun x O1 h1 v G1 α1 H1 e1 p1 rel1 r1 => ?_, xp⟩
  dsimp only at h1
  split at h1
  · next z =>
    cases r1 with
    | str _ oz =>
      refine ⟨⟨z, rfl⟩, G1, α1, Γ, O1, _, xe, sl.mono e1 p1, rel1, h1, fun y O2 h2 u G2 α2 H2 e2 p2 rel2 r2 => ?_, xp.mono e1 p1⟩
      dsimp only at h2
      split at h2
      · next ws ew =>
        split at h2
        · next ds ed =>
          split at h2
          · next ys ey =>
            obtain ⟨a, us, rfl, hs, ra⟩ := asS_ok rel2 r2 ew
            rw [datas_eq ed, strsD_eq ey] at ra
            obtain ⟨eu, ok⟩ := rpL_strs_inv ra.toD
            subst eu
            exact ⟨z, a, ys, rfl, rfl, hs, Nat.le_trans h2.1 (by decide), p _ _ h2.2 _ _ _ _ (e1.trans e2) (p1.trans p2) rel2 (.str _ (strOk_join oz ok))⟩
          · exact h2.elim
        · exact h2.elim
      · exact h2.elim
  · exact h1.elim
/-! #### a op b op' c -/
def dChain (f f' : D2) (wa wb wc : DEx) : DEx := fun Γ O R xe => wa Γ O (fun x O1 => wb Γ O1 (fun y O2 => f x y O2 fun z O3 => match z with
  | .d (.bool t) => if t = true then wc Γ O3 (fun w O4 => f' y w O4 R) xe else R (.d (.bool false)) O3
  | _ => False) xe) xe
/-! #### methods of tuples -/
/-- the tuple has no dict of its own, its items are xs -/
def tTM (K : Fg) (r : V → List V → Hp → VK → Prop) (to : TE) (t : TA) : TE := fun σ H Q => to σ H fun x H1 => (∃ a xs, x = .ref a ∧ SqT K H1 a xs ∧ TD K H1 a) ∧ t σ H1 fun vs H2 => r x vs H2 Q
theorem tup_is {pins : List (Addr × Obj)} {σ : L2.St} {H : Hp} {s : Shared} {p : Addr} {xs : List V} (I : Inv X pins σ H s) (h : SqT X.K H p xs) (td : TD X.K H p) : s.TypeIs (.ref p) "tuple" ∧ ∀ b, Value.ref p = .ref b → ∃ ob, s.heap.get? b = some ob ∧ ob.dict = none := by
  obtain ⟨its, _, pl, _⟩ := I.tuple h
  obtain ⟨o, e, ec, _⟩ := id pl
  refine ⟨⟨o, e, ec⟩, fun b eb => ?_⟩
  cases eb
  rcases td with ⟨ob, u, q, qd⟩ | ⟨ob, q, qd⟩
  · obtain ⟨q', _⟩ := (show ObjOk X.prog X.w H s.heap p (.frz ob u) from I.hok p _ q)
    exact ⟨ob, q', qd⟩
  · exact ⟨ob, I.kIn p ob q, qd⟩
theorem pe_tm {id : String} {name : Str} {r : V → List V → Hp → VK → Prop} {to : TE} {t : TA} (pa : PlainAttrs "tuple") (slot : Slot "tuple" name id) (hty : typeOf (.builtin id) = pure (.type "method_descriptor")) (hm : MtR X id r) (ho : PE X o to) (ha : PA X (e :: es) t)
    (hbase : attributeBase o name X.env (eval o X.env) = eval o X.env := by rfl)
    (hfew : ((backTo cpos (starEach (e :: es) X.env)).all (fun x => !x.1) && (backToKw cpos (keywordEach [] X.env)).all (fun x => x.1.isSome)
      && decide ((e :: es).length + ([] : List Keyword).length + (if ([] : List Keyword).isEmpty then 0 else 1) < 30)) = true := by rfl)
    (hline : (apos.endLine == cpos.line) = true := by rfl) (h1 : starEach (e :: es) X.env = (false, eval e X.env) :: starEach es X.env := by rfl) (hplain : (backTo cpos (starEach es X.env)).any (·.1) = false := by rfl) :
    PE X (.Call (.Attribute o name apos) (e :: es) [] cpos) (tTM X.K r to t) := by
  refine ⟨fun pins s σ H Q I h => ?_⟩
  refine wpAny_Call_method_late hbase hfew hline rfl (thn (ho.run pins s σ H _ I h) fun v s1 ⟨x, H1, I1, r1, ⟨a, xs, ex, hq, td⟩, q1⟩ => ?_)
  subst ex
  obtain rfl : v = Value.ref a := r1
  obtain ⟨k1, k2⟩ := tup_is I1 hq td
  refine ⟨"tuple", id, pa, slot, hty, k1, k2, ?_⟩
  have hA := ha.run cpos pins s1 σ H1 _ I1 q1
  rw [h1] at hA ⊢
  refine Calls.callWith_builtin (by show (false || (backTo cpos (starEach es X.env)).any (·.1)) = false; rw [hplain] <;> rfl) (Calls.evalArgs_plain ?_)
  exact thn hA fun us s2 ⟨vs, H2, I2, r2, q2⟩ => hm pins s2 σ H2 (.ref a) vs _ us Q I2 rfl r2 q2
def dTM (f : DM) (wo : DEx) (ws : DA) : DEx := fun Γ O R xe => wo Γ O (fun o O1 => match o with
  | .d (.tuple ds) => ws Γ O1 (fun xs O2 => f (.d (.tuple ds)) xs O2 R) xe
  | _ => False) xe
theorem de_tm {id : String} {name : Str} {r : V → List V → Hp → VK → Prop} {f : DM} (pa : PlainAttrs "tuple") (slot : Slot "tuple" name id) (hty : typeOf (.builtin id) = pure (.type "method_descriptor")) (hm : MtR X id r) (hs : MtS X.K X.mg f r) (ho : DE X Wx o wo) (ha : DAs X Wx (e :: es) ws)
    (hbase : attributeBase o name X.env (eval o X.env) = eval o X.env := by rfl)
    (hfew : ((backTo cpos (starEach (e :: es) X.env)).all (fun x => !x.1) && (backToKw cpos (keywordEach [] X.env)).all (fun x => x.1.isSome)
      && decide ((e :: es).length + ([] : List Keyword).length + (if ([] : List Keyword).isEmpty then 0 else 1) < 30)) = true := by rfl)
    (hline : (apos.endLine == cpos.line) = true := by rfl) (h1 : starEach (e :: es) X.env = (false, eval e X.env) :: starEach es X.env := by rfl) (hplain : (backTo cpos (starEach es X.env)).any (·.1) = false := by rfl) :
    DE X Wx (.Call (.Attribute o name apos) (e :: es) [] cpos) (dTM f wo ws) := by
  refine pe_imp (fun σ H Q ⟨G, α, Γ, O, R, xe, sl, rel, h, p, xp⟩ => ?_) (pe_tm pa slot hty hm ho ha hbase hfew hline h1 hplain)
  refine ⟨G, α, Γ, O, _, xe, sl, rel, h, fun x O1 h1 v G1 α1 H1 e1 p1 rel1 r1 => ?_, xp⟩
  dsimp only at h1
  split at h1
  · next ds =>
    have r1' := r1
    cases r1 with
    | tup hq td ha =>
      refine ⟨⟨_, _, rfl, rel1.ex.sqT hq, td.mono rel1.ex⟩, G1, α1, Γ, O1, _, xe, sl.mono e1 p1, rel1, h1, fun ys O2 h2 us G2 α2 H2 e2 p2 rel2 r2 => ?_, xp.mono e1 p1⟩
      exact hs _ _ _ _ _ _ _ _ _ _ rel2 (r1'.mono e2 p2) r2 h2 (p.mono (e1.trans e2) (p1.trans p2))
  · exact h1.elim
/-- t.index(x), texts -/
def dIndexT : DM := fun x xs O R => match x, xs with
  | .d (.tuple ds), [.d (.str z)] => (match strsD ds with
    | some ys => (match ys.findIdx? (· == z) with
      | some j => R (.d (.int (j : Nat))) O
      | none => False)
    | none => False)
  | _, _ => False
theorem s_indexT {K : Fg} {mg : Str → Option Value} : MtS K mg dIndexT (fun x xs H Q => ∃ p, ∃ ys : List Str, ∃ z j, x = .ref p ∧ xs = [.str z] ∧ SqT K H p (ys.map V.str) ∧ ys[j]? = some z ∧ (∀ m, m < j → ys[m]? ≠ some z) ∧ Q (.int (j : Nat)) H) := by
  intro G α O H x xs v vs R Q rel r1 rl h p
  unfold dIndexT at h
  split at h
  · next ds z =>
    split at h
    · next ys ey =>
      split at h
      · next j ej =>
        obtain ⟨u, rfl, ru⟩ := rv1 rl
        cases ru
        cases r1 with
        | tup hq td ha =>
          rw [strsD_eq ey] at ha
          obtain ⟨eu, ok⟩ := rpL_strs_inv ha
          subst eu
          obtain ⟨hj, hz, hno⟩ := List.findIdx?_eq_some_iff_getElem.mp ej
          refine ⟨_, ys, z, j, rfl, rfl, rel.ex.sqT hq, ?_, fun m hm e => ?_, p.here h rel (.int _)⟩
          · rw [List.getElem?_eq_getElem hj, eq_of_beq hz]
          · have hml : m < ys.length := Nat.lt_trans hm hj
            rw [List.getElem?_eq_getElem hml] at e
            have := hno m hm
            rw [Option.some.inj e] at this
            simp at this
      · exact h.elim
    · exact h.elim
  · exact h.elim
/-! #### < and the like, of any alike data -/
def rLtD (K : Fg) (g : PyData → PyData → Bool) : R2 := fun x y H Q => ∃ d e, Dp K H x d ∧ Dp K H y e ∧ PySem.W.alike d e = true ∧ d ≠ .none ∧ d.depth ≤ 64 ∧ Q (.bl (g d e)) H
theorem op_ltD (hu : X.A.units + 100 < cLine) : OpR X (compareOp .Lt) (rLtD X.K fun d e => PySem.W.dataLt d e) := by
  intro pins s σ H x y v u Q I rx ry ⟨d, e, hd, he, al, hn, hz, q⟩
  obtain ⟨as, r1⟩ := Dp.reads I d x v hd rx
  obtain ⟨bs, r2⟩ := Dp.reads I e y u he ry
  exact PySem.W.lt_data r1 r2 al hn (by have := Nat.min_le_left d.depth e.depth; omega) ⟨.bl (PySem.W.dataLt d e), H, I, rfl, q⟩
theorem op_gtD (hu : X.A.units + 100 < cLine) : OpR X (compareOp .Gt) (rLtD X.K fun d e => PySem.W.dataLt e d) := by
  intro pins s σ H x y v u Q I rx ry ⟨d, e, hd, he, al, hn, hz, q⟩
  obtain ⟨as, r1⟩ := Dp.reads I d x v hd rx
  obtain ⟨bs, r2⟩ := Dp.reads I e y u he ry
  exact PySem.W.gt_data r1 r2 al hn (by have := Nat.min_le_left d.depth e.depth; omega) ⟨.bl (PySem.W.dataLt e d), H, I, rfl, q⟩
def dLtD (g : PyData → PyData → Bool) : D2 := fun x y O R => match asD x O, asD y O with
  | some d, some e => shp 40 d = true ∧ shp 40 e = true ∧ PySem.W.alike d e = true ∧ isNone (.d d) = false ∧ R (.d (.bool (g d e))) O
  | _, _ => False
theorem s_ltD {K : Fg} {mg : Str → Option Value} {g : PyData → PyData → Bool} : OpS K mg (dLtD g) (rLtD K g) := by
  intro G α O H x y u v R Q rel r1 r2 h p
  unfold dLtD at h
  split at h
  · next d e e1 e2 =>
    obtain ⟨d1, _⟩ := asD_ok rel r1 e1 h.1
    obtain ⟨d2, _⟩ := asD_ok rel r2 e2 h.2.1
    refine ⟨d, e, d1, d2, h.2.2.1, fun z => ?_, Nat.le_trans (shp_depth 40 d h.1) (by decide), p.here h.2.2.2.2 rel (.bl _)⟩
    rw [z] at h
    exact absurd h.2.2.2.1 (by simp [isNone])
  · exact h.elim
end
end Dl
namespace Dl
open PySem PySem.Spec PyProof.Rows L2
/-! #### enumerate(tuple), at the machine -/
set_option maxHeartbeats 1000000 in
theorem meets_enum1 {v : Value} {o : Obj} {Hh : Heap → Prop} (B : Begins v o Hh) :
    Meets (Builtin.«enumerate.__new__» ⟨[.type "enumerate", v], []⟩) (fun _ R s => Hh s.heap ∧
      R (.ok (.ret (.ref (s.heap.push o).objs.size))) { s with heap := (s.heap.push o).push { cls := .type "enumerate", data := .fields #[.none, .bool false, .ref s.heap.objs.size, rawInt 0, .none, .none] } }) :=
  .of_wp fun prog w A R s h => by
    obtain ⟨hp, gs, dr, tk, os⟩ := s
    obtain ⟨h1, h⟩ := h
    have hsub := sub_enumerate
    have it1 : ∀ {A' : Around} {E : Value → Shared → Prop} {Q : Value → Shared → Prop}, Q (.ref hp.objs.size) ⟨hp.push o, gs, dr, tk, os⟩ → wpAny (model prog w) A' (pyIter v) Q E ⟨hp, gs, dr, tk, os⟩ :=
      fun q => B.iter prog w _ _ ⟨hp, gs, dr, tk, os⟩ _ h1 q
    wp_walk using it1
    refine wpAny_stack_any fun st => wpAny_pure ?_
    split
    · rename_i c _ _ _ _ _
      cases (c == Value.type "enumerate")
      · wp_walk using it1
        exact ⟨_, rfl, h⟩
      · wp_walk using it1
        exact ⟨_, rfl, h⟩
    · wp_walk using it1
      exact ⟨_, rfl, h⟩
section
variable {prog : Program} {w : World} {A : Around} {E : Value → Shared → Prop} {s : Shared}
theorem enum_call {v : Value} {o : Obj} {Hh : Heap → Prop} {Q : Value → Shared → Prop} (B : Begins v o Hh) (h1 : Hh s.heap)
    (h : ∀ h', IsEnum h' (s.heap.objs.size + 1) s.heap.objs.size 0 .none → h'.get? s.heap.objs.size = some o → (∀ b ob, s.heap.get? b = some ob → h'.get? b = some ob) → Q (.ref (s.heap.objs.size + 1)) { s with heap := h' }) :
    wpAny (model prog w) A (call (.type "enumerate") [v]) Q E s := by
  refine callType_new F.called_enumerate (by decide) (F.typeCall_enumerate_1 _) (F.newCall_enumerate_1 _) (fun obj => F.args_object_init_2 obj _) F.entry_enumerate_new (meets_enum1 B) ⟨h1, ?_⟩
  have z : (s.heap.push o).objs.size = s.heap.objs.size + 1 := Heap.size_push ..
  show _ ∧ _
  rw [z]
  have he : IsEnum ((s.heap.push o).push { cls := .type "enumerate", data := .fields #[.none, .bool false, .ref s.heap.objs.size, rawInt 0, .none, .none] }) (s.heap.objs.size + 1) s.heap.objs.size 0 .none := by
    have q := Heap.get?_push_size (s.heap.push o) (o := { cls := .type "enumerate", data := .fields #[.none, .bool false, .ref s.heap.objs.size, rawInt 0, .none, .none] }) rfl
    rwa [z] at q
  exact ⟨⟨_, he, rfl⟩, h _ he (Heap.get?_push_of_some _ (Heap.get?_push_size _ B.free)) fun b ob x => Heap.get?_push_of_some _ (Heap.get?_push_of_some _ x)⟩
end
/-- the tuple at a, each item in a new pair with its number -/
def IteT (K : Fg) (a : Addr) : It :=
  ⟨fun i H => ∃ (xs : List V) (x : V), SqT K H a xs ∧ xs[i]? = some x, fun i H v H' => ∃ T x, v = .ref T ∧ H T = none ∧ H' = upd H T (.tup [.int (i : Nat), x]) ∧ ∀ xs, SqT K H a xs → xs[i]? = some x, fun i H => ∃ xs : List V, SqT K H a xs ∧ xs.length ≤ i⟩
theorem turn_enumT {P : Program} {w : World} {K : Fg} {elts : List Expr} {kk : Nat} {tpos : Pos} (a e it : Addr) :
    Turn P w K (.Tuple elts kk tpos) (IteT K a) [e, it] e (fun i h => (∃ old, IsEnum h e it ((i : Nat) : Int) old) ∧ h.IsTupleIter it a i ∧ e ≠ it ∧ e ≠ a ∧ a ≠ it) where
  mem := by simp
  obj := fun i h st b hb => by
    obtain ⟨⟨old, he⟩, ⟨o, ho, hc, hd⟩, _⟩ := st
    have e' : b = e ∨ b = it := by simpa using hb
    rcases e' with z | z
    · subst z; exact ⟨_, he, fun v q => nomatch q⟩
    · subst z; exact ⟨o, ho, fun v q => by rw [hd] at q; cases q⟩
  keep := fun i h h' st k => by
    obtain ⟨⟨old, he⟩, hi, hr⟩ := st
    exact ⟨⟨old, k e (by simp) _ he⟩, hi.at fun o q => k it (by simp) o q, hr⟩
  item := by
    intro X hP hw hK hc i pins s σ H E I hf st hg
    subst hP hw hK
    obtain ⟨⟨old, he⟩, hit, hne, hea, hai⟩ := st
    obtain ⟨xs, x, hq, hx⟩ := hg
    obtain ⟨its, rv, p, hz⟩ := I.tuple hq
    obtain ⟨u, hu, ru⟩ := rv.get hx
    have hlt : i < its.toArray.size := by
      rw [List.size_toArray]
      exact (List.getElem?_eq_some_iff.mp hu).1
    have hel : e < s.heap.objs.size := Heap.lt_size he
    have hil : it < s.heap.objs.size := by obtain ⟨_, q, _⟩ := hit; exact Heap.lt_size q
    have D : Draws X.prog X.w X.A.in1 it [it, a] its.toArray.size (fun i v => its.toArray[i]? = some v) (fun i h => h.IsTupleIter it a i ∧ h.IsTuple a its.toArray) := Draws.tuple (show X.A.in1.handled = none from I.ok.hd hc) it a hai its.toArray
    refine wpAny_pyNext_enum_itemC D he ⟨hit, p⟩ hlt hne (by simp [hne, hea]) fun y h' tk py ho st' hT hsz hk => ?_
    have ey : y = u := by
      have : its.toArray[i]? = some u := by simpa using hu
      rw [this] at py
      exact (Option.some.inj py).symm
    subst ey
    refine ⟨_, rfl, wpAny_letOwnedTupleGo_enum (s := { s with heap := h', toks := tk + 1 }) ho fun h'' he' sb => ?_⟩
    have hT2 : h''.get? s.heap.objs.size = some { cls := .type "tuple", data := .seq #[.int i tk, y] } := (sb.2 _ (Nat.ne_of_gt hel)).trans hT
    have new : ObjOk X.prog X.w (upd H s.heap.objs.size (.tup [.int (i : Nat), x])) h'' s.heap.objs.size (.tup [.int (i : Nat), x]) :=
      ⟨by show 2 ≤ sizeLine; decide, [.int i tk, y], .cons ⟨_, rfl⟩ (.cons ru .nil), ⟨_, hT2, rfl, _, rfl⟩⟩
    have I1 : Inv X pins σ (upd H s.heap.objs.size (.tup [.int (i : Nat), x])) { s with heap := h'', toks := tk + 1 } :=
      I.turnedNew (ch := [e, it]) (fun b ob hb q => (sb.2 b (fun z => hb (by simp [z]))).trans (hk b ob (fun z => hb (by simp [z])) (fun z => hb (by simp [z])) q)) hf (Nat.le_refl _) new
    refine ⟨.ref s.heap.objs.size, _, I1, rfl, ⟨_, x, rfl, I.hok.fresh (Nat.le_refl _), rfl, fun ys hy => by rw [I.tuple_inj hy hq]; exact hx⟩, ⟨⟨y, ?_⟩, st'.1.at fun o q => (sb.2 it (Ne.symm hne)).trans q, hne, hea, hai⟩, fun b hb => ?_⟩
    · have e1 : ((i + 1 : Nat) : Int) = (i : Int) + 1 := by omega
      rw [e1]
      exact he'
    · have hb' : b < s.heap.objs.size := by
        have e' : b = e ∨ b = it := by simpa using hb
        rcases e' with z | z
        · subst z; exact hel
        · subst z; exact hil
      rw [upd_ne (Nat.ne_of_lt hb')]
      exact (hf b hb).1
  done := by
    intro X hP hw hK hc i pins s σ H E I hf st hg
    subst hP hw hK
    obtain ⟨⟨old, he⟩, hit, hne, hea, hai⟩ := st
    obtain ⟨xs, hq, hx⟩ := hg
    obtain ⟨its, rv, p, hz⟩ := I.tuple hq
    have hl := rv.length
    have hle : its.toArray.size ≤ i := by rw [List.size_toArray, ← hl]; exact hx
    have fi := hf it (by simp)
    have stop : wpAny (model X.prog X.w) X.A (pyNext (.ref e)) (fun r s1 => r = none ∧ Inv X pins σ H s1) E s := by
      have hT : s.TypeIs (.ref e) "enumerate" := ⟨_, he, rfl⟩
      unfold pyNext
      refine wpAny_bind (wpAny_attempt (wpAny_callSpecial?_slot (name := Str.ofString "__next__") hT F.slot_enumerate_next
        (wpAny_call_entry F.slot_enumerate_next hT F.entry_enumerate_next ?_ (F.args_enumerate_next_1 _))))
      show wpAny _ _ (field (.ref e) 2 >>= _) _ _ _
      refine wpAny_bind (wpAny_field he rfl (x := .ref it) rfl ?_)
      refine wpAny_bind (wpAny_nextOf_tuple_end (I.ok.hd hc) hit p (by simpa using hle) fun h' x he' hx' => ?_)
      obtain ⟨o, ho, hcl⟩ := hx'
      refine wpAny_bind (wpAny_isInstance (T := "StopIteration") (b := true) ⟨o, ho, hcl⟩ isSubtype_stop ?_)
      exact wpAny_pure ⟨rfl, I.turned (t' := s.toks) (fun b o hb q => he' b o hb q) fi.1 fi.2.1 fi.2.2.2.1 fi.2.2.2.2.1 fi.2.2.2.2.2⟩
    exact stop
  self := fun A i s Q E st h => by
    obtain ⟨⟨_, he⟩, _⟩ := st
    exact wpAny_pyIter_enum he h
def iEnumA (K : Fg) (ta : TA) : TI := fun σ H R => ta σ H fun vs H1 => ∃ a xs, vs = [.ref a] ∧ ((SqL K H1 a xs ∧ R (Ite K a) H1) ∨ (SqT K H1 a xs ∧ R (IteT K a) H1))
theorem pi_enumA {X : Cx} {e : Expr} {ta : TA} {p pos tpos : Pos} {elts : List Expr} {kk : Nat} (hg : Gl X "enumerate") (hm : X.mg "enumerate" = none) (ha : PA X [e] ta) (hs : starEach [e] X.env = [(false, eval e X.env)] := by rfl) :
    PI X (.Tuple elts kk tpos) (.Call (.Name "enumerate" p) [e] [] pos) (iEnumA X.K ta) := by
  refine ⟨fun pins s σ H R I h => ?_⟩
  refine Call_ (ld_blt I hg hm boot_enumerate (PyProof.Rows.callWith_type1 (thn (ha.run pos pins s σ H _ I h) fun us s1 ⟨vs, H1, I1, r1, q1⟩ => ?_) hs rfl))
  obtain ⟨a, xs, ex, q1⟩ := q1
  subst ex
  obtain rfl := Vals.ref1 r1
  have two : ∀ b, b ∈ [s1.heap.objs.size + 1, s1.heap.objs.size] → FpOk X pins H1 b := fun b hb => by
    have e' : b = s1.heap.objs.size + 1 ∨ b = s1.heap.objs.size := by simpa using hb
    have hle : s1.heap.objs.size ≤ b := by
      rcases e' with z | z
      · rw [z]; exact Nat.le_succ _
      · rw [z]; exact Nat.le_refl _
    exact I1.fpOk hle (I1.hok.fresh hle)
  rcases q1 with ⟨hq, q⟩ | ⟨hq, q⟩
  · obtain ⟨its, rv, p', hz⟩ := I1.list hq
    refine call_enumerate_list p'.isList fun h' he hit hsz hk => wpAny_pyIter_enum he ?_
    have I2 : Inv X pins σ H1 { s1 with heap := h' } := I1.kept (t' := s1.toks) hk
    exact ⟨s1.heap.objs.size + 1, [s1.heap.objs.size + 1, s1.heap.objs.size], _, _, H1, rfl, I2, turn_enum a (s1.heap.objs.size + 1) s1.heap.objs.size, ⟨⟨.none, he⟩, hit, Nat.succ_ne_self _⟩, two, q⟩
  · obtain ⟨its, rv, p', hz⟩ := I1.tuple hq
    have hal : a < s1.heap.objs.size := by obtain ⟨o, ho, _⟩ := id p'; exact Heap.lt_size ho
    refine enum_call (begins_tuple a its.toArray) (show s1.heap.IsTuple a its.toArray from p') fun h' he hit hk => wpAny_pyIter_enum he ?_
    have I2 : Inv X pins σ H1 { s1 with heap := h' } := I1.kept (t' := s1.toks) hk
    exact ⟨s1.heap.objs.size + 1, [s1.heap.objs.size + 1, s1.heap.objs.size], _, _, H1, rfl, I2, turn_enumT a (s1.heap.objs.size + 1) s1.heap.objs.size, ⟨⟨.none, he⟩, ⟨_, hit, rfl, rfl⟩, Nat.succ_ne_self _, Nat.ne_of_gt (Nat.lt_succ_of_lt hal), Nat.ne_of_lt hal⟩, two, q⟩
/-! #### enumerate, over data -/
def enumW (n : Nat) : List PyData → List W
  | [] => []
  | d :: r => .p [.int (n : Nat), d] :: enumW (n + 1) r
theorem enumW_len : ∀ (n : Nat) (ds : List PyData), (enumW n ds).length = ds.length
  | _, [] => rfl
  | n, d :: r => by show (enumW (n + 1) r).length + 1 = r.length + 1; rw [enumW_len]
theorem enumW_get : ∀ (n : Nat) (ds : List PyData) (i : Nat) (d : PyData), ds[i]? = some d → (enumW n ds)[i]? = some (.p [.int ((n + i : Nat) : Int), d])
  | _, [], i, d, h => by simp at h
  | n, d :: r, 0, x, h => by
    simp only [List.getElem?_cons_zero, Option.some.injEq] at h
    subst h
    rfl
  | n, d :: r, i + 1, x, h => by
    show (enumW (n + 1) r)[i]? = _
    rw [enumW_get (n + 1) r i x (by simpa using h), Nat.add_right_comm]
    rfl
/-- what is walked never changes -/
def asFz : W → Option (List PyData)
  | .d (.list ds) => some ds
  | .d (.tuple ds) => some ds
  | _ => none
def dEnum (ws : DA) : DI := fun Γ O S xe => ws Γ O (fun xs O1 => match xs with
  | [x] => (match asFz x with
    | some ds => S (enumW 0 ds) (fun _ => True) O1
    | none => False)
  | _ => False) xe
section
variable {K : Fg} {mg : Str → Option Value}
theorem asFz_ok {G : Hp} {α : Al} {v : V} {x : W} {ds : List PyData} (r : Rv K G α v x) (h : asFz x = some ds) : ∃ a vs, v = .ref a ∧ ((SqL K G a vs ∧ x = .d (.list ds)) ∨ (SqT K G a vs ∧ x = .d (.tuple ds))) ∧ RpL K G vs ds := by
  unfold asFz at h
  split at h
  · cases h
    cases r with | lst hs ha => exact ⟨_, _, rfl, .inl ⟨SqL.of hs, rfl⟩, ha⟩
  · cases h
    cases r with | tup hs td ha => exact ⟨_, _, rfl, .inr ⟨hs, rfl⟩, ha⟩
  · cases h
theorem rp_pair {G : Hp} {a : Addr} {v u : V} {d e : PyData} (h : G a = some (.tup [v, u])) (r1 : Rp K G v d) (r2 : Rp K G u e) : ∃ a' vs, V.ref a = .ref a' ∧ SqT K G a' vs ∧ RpL K G vs [d, e] :=
  ⟨a, _, rfl, SqT.of h, .cons r1 (.cons r2 .nil)⟩
theorem sim_enum {G0 : Hp} {α0 : Al} {a : Addr} {vs : List V} {ds : List PyData} {J : It} (r : RpL K G0 vs ds)
    (hgo : ∀ i H (x : V), Ex G0 H → vs[i]? = some x → J.go i H) (hstop : ∀ i H, Ex G0 H → vs.length ≤ i → J.stop i H)
    (hy : ∀ i H v H', Ex G0 H → J.yld i H v H' → ∃ T x, v = .ref T ∧ H T = none ∧ H' = upd H T (.tup [.int (i : Nat), x]) ∧ vs[i]? = some x) : Sim K mg J G0 α0 (enumW 0 ds) fun _ => True := by
  intro i G α O H e p rel _
  have eH : Ex G0 H := e.trans rel.ex
  refine ⟨fun hi => hstop i H eH (by rw [r.length]; rw [enumW_len] at hi; exact hi), fun w hw => ?_⟩
  have hi : i < ds.length := by
    have := (List.getElem?_eq_some_iff.mp hw).1
    rwa [enumW_len] at this
  obtain ⟨d, hd⟩ : ∃ d, ds[i]? = some d := ⟨_, List.getElem?_eq_getElem hi⟩
  rw [enumW_get 0 ds i d hd] at hw
  cases hw
  obtain ⟨v, hv, rv⟩ := r.get hd
  refine ⟨hgo i H v eH hv, fun x H' y => ?_⟩
  obtain ⟨T, z, rfl, hT, rfl, hz⟩ := hy i H x H' eH y
  rw [hv] at hz
  cases hz
  have gT := rel.ex.free hT
  refine ⟨_, Ex.new gT, rel.lay hT, ?_⟩
  refine rp_pair upd_same ?_ (rv.mono (e.trans (Ex.new gT)))
  rw [Nat.zero_add]
  exact .int _
end
section
variable {X : Cx} {Wx : WX} {k : Nat} {a b c e o : Expr} {wa wb wc we wo : DEx} {pos p2 : Pos} {ws : DA}
theorem di_enum {p pos tpos : Pos} {elts : List Expr} {kk : Nat} (hm : X.mg "enumerate" = none) (ha : DAs X Wx [e] ws) (hg : Gl X "enumerate" := by rfl) (hs : starEach [e] X.env = [(false, eval e X.env)] := by rfl) :
    DIt X Wx (.Tuple elts kk tpos) (.Call (.Name "enumerate" p) [e] [] pos) (dEnum ws) := by
  refine pi_imp (fun σ H R ⟨G, α, Γ, O, S, xe, sl, rel, h, xp, q⟩ => ?_) (pi_enumA hg hm ha hs)
  refine ⟨G, α, Γ, O, _, xe, sl, rel, h, fun x O1 h1 v G1 α1 H1 e1 p1 rel1 r1 => ?_, xp⟩
  dsimp only at h1
  split at h1
  · next y =>
    split at h1
    · next ds ed =>
      obtain ⟨u, rfl, ru⟩ := rv1 r1
      obtain ⟨a, vs, rfl, hq, rp⟩ := asFz_ok ru ed
      rcases hq with ⟨hq, _⟩ | ⟨hq, _⟩
      · refine ⟨a, vs, rfl, .inl ⟨rel1.ex.sqL hq, q _ _ _ h1 _ _ _ _ e1 p1 rel1 (sim_enum (a := a) rp (fun i H x e hx => ⟨vs, x, e.sqL hq, hx⟩) (fun i H e hi => ⟨vs, e.sqL hq, hi⟩) fun i H v H' e y => ?_)⟩⟩
        obtain ⟨T, x, h1, h2, h3, h4⟩ := y
        exact ⟨T, x, h1, h2, h3, h4 vs (e.sqL hq)⟩
      · refine ⟨a, vs, rfl, .inr ⟨rel1.ex.sqT hq, q _ _ _ h1 _ _ _ _ e1 p1 rel1 (sim_enum (a := a) rp (fun i H x e hx => ⟨vs, x, e.sqT hq, hx⟩) (fun i H e hi => ⟨vs, e.sqT hq, hi⟩) fun i H v H' e y => ?_)⟩⟩
        obtain ⟨T, x, h1, h2, h3, h4⟩ := y
        exact ⟨T, x, h1, h2, h3, h4 vs (e.sqT hq)⟩
    · exact h1.elim
  · exact h1.elim
/-! #### zip of two, alike lists or tuples of data -/
end
end Dl
namespace Dl
open PySem PySem.Spec PyProof.Rows L2
/-! #### the base's __init__, read off an own class that has none -/
structure BaseC (K : Fg) (mg : Str → Option Value) (nm : Str) : Prop where
  ex : ∃ (B : Addr) (mc : Value), mg nm = some (.ref B) ∧ ClX.CRead K B mc ∧ PySem.W.findCls K (.ref B) mc "__init__" = some (.val (.builtin "ValueError.__init__"))
section
variable {X : Cx} {o e : Expr} {es : List Expr} {to te : TE} {ta : TA} {f nm : Str} {p p' p1 p2 pos : Pos}
theorem pe_leinit {pl : Sem Bool} (hg : Gl X nm) (T : BaseC X.K X.mg nm) (ha : PA X (e :: es) ta) (hdb : (nm == ("__debug__" : Str)) = false := by decide)
    (hc : eval (.Call (.Attribute (.Name nm p1) "__init__" p2) (e :: es) [] pos) X.env = (do
      let ov ← eval (.Name nm p1) X.env
      standAt p2.atName
      let (f, first) ← holding [ov] (getMethod ov "__init__" pl)
      callWith pos f first (backTo pos (starEach (e :: es) X.env)) (backToKw pos (keywordEach [] X.env))) := by rfl)
    (he : starEach (e :: es) X.env = (false, eval e X.env) :: starEach es X.env := by rfl) (hpl : (backTo pos (starEach es X.env)).any (·.1) = false := by rfl) :
    PE X (.Call (.Attribute (.Name nm p1) "__init__" p2) (e :: es) [] pos) (tVeI X.K ta) := by
  obtain ⟨B, mc, hm, rd, hv⟩ := T.ex
  refine ⟨fun pins s σ H Q I h => ?_⟩
  refine PySem.W.methodCall_KW (ld_glob I hg hm ?_ hdb) hc
  refine PySem.W.method_cls I.kIn rd.ga (PySem.W.cls_value I.kIn rd.rd hv (by decide +kernel) ?_)
  show wpAny _ _ (callWith pos (Value.builtin "ValueError.__init__") [] (backTo pos (starEach (e :: es) X.env)) []) _ _ _
  refine PyProof.Rows.callWith_method1 (thn (ha.run pos pins _ σ H _ (I.tok _) h) fun us s1 ⟨vs, H1, I1, r1, a, C, ws, ev, hl, T, ea, q⟩ => ?_) he hpl
  subst ev
  cases r1 with
  | @cons _ u0 _ ur ra rw' =>
    obtain rfl : u0 = Value.ref a := ra
    have hz : ur.length ≤ sizeLine := by
      rw [← Paired.length rw', sizeLine_eq]
      omega
    exact oinit_ok T I1 ea hz fun s' J => ⟨.non, H1, J, rfl, q⟩
end
/-! #### what __init__ leaves of a new exception -/
def spIni (K : Fg) (fs : List Str) : Sp := fun vs H Q _ => ∃ (a C : Addr) (us : List V), vs = .ref a :: us ∧ us.length = fs.length ∧ OexC K C ∧ (∀ f ∈ fs, PySem.W.findIn K (.ref C) f = some none) ∧ H a = some (exo a C none) ∧
  ∀ d, H d = none → d ≠ a → Q .non (upd (upd H d (exd d (fs.zip us).reverse)) a (exo a C (some d)))
theorem upd_swap {H : Hp} {a d : Addr} {o u v w : HO} (h : d ≠ a) : upd (upd (upd H d o) a u) d w = upd (upd H d w) a u := by
  funext b
  by_cases hb : b = d
  · subst hb
    rw [upd_same, upd_ne h, upd_same]
  · by_cases ha : b = a
    · subst ha
      rw [upd_ne hb, upd_same, upd_same]
    · rw [upd_ne hb, upd_ne ha, upd_ne hb, upd_ne ha, upd_ne hb]
section
variable {P : Program} {w : World} {K : Fg} {mg : Str → Option Value} {base : Heap}
theorem ini2 {f1 f2 : Str} {vs : List V} {H : Hp} {Q : VK} {E : XK} {N : List Str} {m : Str} (hN : N.length = 3) (h : spIni K [f1, f2] vs H Q E) :
    tSeq (tDrop (tVeI K (tCons (tVar 0) (tCons (tC (.str m)) tNil)))) (tSeq (tOst K f1 (tVar 0) (tVar 1)) (tOst K f2 (tVar 0) (tVar 2))) { nx := fun _ H' => Q .non H', rt := Q } (L2.start N vs) H := by
  obtain ⟨a, C, us, rfl, hl, T, hno, ha, q⟩ := h
  match us, hl with
  | [u1, u2], _ =>
    have e0 : (L2.start N [V.ref a, u1, u2])[0]? = some (some (V.ref a)) := by unfold L2.start; simp
    have e1 : (L2.start N [V.ref a, u1, u2])[1]? = some (some u1) := by unfold L2.start; simp
    have e2 : (L2.start N [V.ref a, u1, u2])[2]? = some (some u2) := by unfold L2.start; simp
    refine ⟨_, e0, a, C, [.str m], rfl, by show 1 ≤ 1000; decide, T, ha, ?_⟩
    refine ⟨_, e1, _, e0, a, C, rfl, T, hno f1 (by simp), .inl ⟨ha, fun dx hd hne => ?_⟩⟩
    refine ⟨_, e2, _, e0, a, C, rfl, T, hno f2 (by simp), .inr ⟨dx, [(f1, u1)], upd_same, by rw [upd_ne hne, upd_same], by show 1 ≤ 900; decide, ?_⟩⟩
    have := q dx hd hne
    show Q .non (upd (upd (upd H dx (exd dx [(f1, u1)])) a (exo a C (some dx))) dx (exd dx [(f2, u2), (f1, u1)]))
    rw [upd_swap (v := .lst []) hne]
    exact this
end
/-! #### an exception with an __init__ of its own, made where nothing is handled: its context is None -/
section
variable {X : Cx} {e : Expr} {es : List Expr} {ta : TA} {p pos : Pos}
theorem pmkN_oex {CX : CXT} {x : Str} {C fI : Addr} {k : Nat} {fd : FuncData} {ps : List Str} {sp : Sp} {ds : List Value} {dvs : List V} (T : OexC X.K C) (iC : PySem.W.findIn X.K (.ref C) "__init__" = some (some (.ref fI))) (tI : PySem.W.typeIn X.K (.ref fI) = some (.type "function"))
    (F1 : FnOk X.prog X.w X.K X.mg X.base CX k fI fd ps sp) (hr : Room (k + 1) X.A) (hb : Binds X.K fd ps ds) (hd : Vals dvs ds) (hx : Passes CX X (fun _ _ _ => False)) (hg : Gl X x) (hm : X.mg x = some (.ref C)) (ha : PA X (e :: es) ta)
    (hdb : (x == ("__debug__" : Str)) = false := by decide) (he : starEach (e :: es) X.env = (false, eval e X.env) :: starEach es X.env := by rfl) (hpl : (backTo pos (starEach es X.env)).any (·.1) = false := by rfl) :
    L2N.PMk X (.Call (.Name x p) (e :: es) [] pos) (tMkO C sp dvs ta) := by
  intro pins s σ H Q I h
  obtain ⟨nm, q, N, bs, bm, sn, sub, ab, col, dd, k0, k1, k2, k3, k5, hC, hbm⟩ := T.cls
  refine wpAny_Call_Name_kw (ld_glob I hg hm ?_ hdb)
  refine PySem.W.callWith_K (h₀ := X.base) I.ok.mod.kin T.kC (thn (ha.run pos pins s σ H _ I h) fun us s1 ⟨vs, H1, I1, r1, hz, q1⟩ => ⟨I1.kIn, ?_⟩) he hpl
  show wpAny _ _ (call (.ref C) us) _ _ _
  obtain ⟨hp, g, dr, tk, os⟩ := s1
  have hsz : hp.objs.size ≤ hp.objs.size + 1 := Nat.le_succ _
  have hn : H1 (hp.objs.size + 1) = none := I1.hok.fresh hsz
  have hq := q1 (hp.objs.size + 1) hn
  have kk : ∀ b o, hp.get? b = some o → ((hp.push (PySem.W.kdv_tup us)).push (PySem.HandSPX.excO C hp.objs.size)).get? b = some o := fun b o e => Heap.get?_push_of_some _ (Heap.get?_push_of_some _ e)
  have hget : ((hp.push (PySem.W.kdv_tup us)).push (PySem.HandSPX.excO C hp.objs.size)).get? (hp.objs.size + 1) = some (PySem.HandSPX.excO C hp.objs.size) := by heap_get
  have I2 : Inv X pins σ (upd H1 (hp.objs.size + 1) (exo (hp.objs.size + 1) C none)) ⟨(hp.push (PySem.W.kdv_tup us)).push (PySem.HandSPX.excO C hp.objs.size), g, dr, tk, os⟩ :=
    I1.laid (t' := tk) (a := hp.objs.size + 1) (o := exo (hp.objs.size + 1) C none) (h' := (hp.push (PySem.W.kdv_tup us)).push (PySem.HandSPX.excO C hp.objs.size)) kk hsz (exo_ok hget)
  have r2 : Vals (V.ref (hp.objs.size + 1) :: (vs ++ dvs)) (Value.ref (hp.objs.size + 1) :: (us ++ ds)) := .cons rfl (r1.append hd)
  have hl : (Value.ref (hp.objs.size + 1) :: us ++ ds).length = ps.length := by
    have e := r2.length
    rw [F1.len _ _ _ _ hq] at e
    exact e.symm
  have hus : us.length ≤ sizeLine := by
    rw [← Paired.length r1, sizeLine_eq]
    omega
  refine wpAny_call (PySem.HandSPX.call_own F.excBase_ValueError (fun Y => PySem.HandSPX.refsVE_contains Y bm hbm) (I1.kIn _ _ hC) (PySem.W.looks_findIn I1.kIn iC) (fun self => PySem.W.bind_fn I1.kIn self tI) hus
    (codeAny_mono (F1.run _ X.stack _ _ ⟨Value.ref (hp.objs.size + 1) :: us, []⟩ (Value.ref (hp.objs.size + 1) :: (us ++ ds)) _ _ (fun _ _ _ => False) (hr.make C us []) (I2.env0.make C us []) (hb _ (Value.ref (hp.objs.size + 1) :: us) I2.kIn hl) r2 hq) fun r s' hq' => ?_))
  cases r with
  | error er => exact hx pins σ _ _ er s' I2 hq'
  | ok fl =>
    cases fl with
    | ret u =>
      obtain ⟨v, H2, os2, bare2, un2, hok2, rv, ev, d, fs, ea, ed, hd1, q2⟩ := hq'
      subst ev
      obtain ⟨h2, g2, d2, t2, os'⟩ := s'
      obtain ⟨t0, G, J, kG, ge, hoe, na⟩ := mk_end0 (d2 := d2) (t2 := t2) I1 hsz kk un2 hok2 os2 bare2 ea ed hd1
      refine ⟨rv, ⟨hp.objs.size + 1, _, _, ⟨G, g2, d2, t2, os'⟩, _, .ref C, some d, rfl, J, kG, ge, hoe, ⟨rfl, rfl, fun vs hv => ?_⟩, rfl, rfl, na, rfl, bare2, raises_own T.exC T.tyC, q2⟩⟩
      cases hv
      rfl
    | next => exact False.elim hq'
    | brk => exact False.elim hq'
    | cont => exact False.elim hq'
end
/-! #### what is known of an exception's class -/
/-- with an __init__ that keeps its fields -/
structure XCF (P : Program) (w : World) (K : Fg) (mg : Str → Option Value) (base : Heap) (nm : Str) (fs : List Str) : Prop where
  ex : ∃ (C fI : Addr) (fd : FuncData) (ps : List Str), mg nm = some (.ref C) ∧ OexC K C ∧ PySem.W.findIn K (.ref C) "__init__" = some (some (.ref fI)) ∧ PySem.W.typeIn K (.ref fI) = some (.type "function") ∧
    FnOk P w K mg base CX0 1 fI fd ps (spIni K fs) ∧ Binds K fd ps [] ∧ XfC K C ∧ (∀ f ∈ fs, PySem.W.findIn K (.ref C) f = some none)
section
variable {X : Cx} {Wx : WX} {k : Nat} {a b c e o : Expr} {wa wb wc we wo : DEx} {pos p2 p : Pos} {ws : DA} {es : List Expr}
/-- raise C('..') -/
def dRaise0 (nm : Str) : DSt := fun _ xe Γ O => xe ⟨nm, []⟩ Γ O
/-- raise C(e, ..), fields of these names -/
def dRaiseF (nm : Str) (fs : List Str) (ws : DA) : DSt := fun _ xe Γ O => ws Γ O (fun vs O1 => match datas vs with
  | some ds => ds.length = fs.length ∧ xe ⟨nm, (fs.zip ds).reverse⟩ Γ O1
  | none => False) xe
theorem zip_ne {fs : List Str} {ds : List PyData} (h : fs ≠ []) (e : ds.length = fs.length) : (fs.zip ds).reverse ≠ [] := fun z => by
  have := congrArg List.length z
  rw [List.length_reverse, List.length_zip, e] at this
  cases fs with
  | nil => exact h rfl
  | cons f r => simp at this
theorem zip_paired {G : Hp} : ∀ {fs : List Str} {vs : List V} {ds : List PyData}, vs.length = fs.length → RpL X.K G vs ds → Paired (fun (p : Str × V) (q : Str × PyData) => p.1 = q.1 ∧ Rp X.K G p.2 q.2) (fs.zip vs) (fs.zip ds)
  | [], [], _, _, h => by cases h; exact .nil
  | f :: fs, v :: vs, _, e, h => by
    cases h with
    | cons h1 h2 => exact .cons ⟨rfl, h1⟩ (zip_paired (by simpa using e) h2)
theorem paired_app {α β : Type} {F : α → β → Prop} : ∀ {a : List α} {b : List β} {c : List α} {d : List β}, Paired F a b → Paired F c d → Paired F (a ++ c) (b ++ d)
  | _, _, _, _, .nil, h => h
  | _, _, _, _, .cons r t, h => .cons r (paired_app t h)
theorem paired_rev {α β : Type} {F : α → β → Prop} : ∀ {a : List α} {b : List β}, Paired F a b → Paired F a.reverse b.reverse
  | _, _, .nil => .nil
  | _, _, .cons r t => by
    rw [List.reverse_cons, List.reverse_cons]
    exact paired_app (paired_rev t) (.cons r .nil)
theorem ds_raiseF {nm : Str} {fs : List Str} {pos2 : Pos} (g : Good X Wx k) (hk : 2 ≤ k) (T : XCF X.prog X.w X.K X.mg X.base nm fs) (hfs : fs ≠ [] := by decide +kernel) (hfl : fs.length ≤ 100 := by decide +kernel) (ha : DAs X Wx (e :: es) ws) (hg : Gl X nm := by rfl) (hdb : (nm == ("__debug__" : Str)) = false := by decide)
    (he : starEach (e :: es) X.env = (false, eval e X.env) :: starEach es X.env := by rfl) (hpl : (backTo pos (starEach es X.env)).any (·.1) = false := by rfl) :
    DS X Wx (.Raise (some (.Call (.Name nm p) (e :: es) [] pos)) none pos2) (dRaiseF nm fs ws) := by
  obtain ⟨C, fI, fd, ps, hm, hT, iC, tI, F, hb, _, hno⟩ := T.ex
  refine ps_imp (fun D σ H ⟨G, α, Γ, O, DD, xe, sl, rel, h, p, xp⟩ => ?_) (L2N.ps_raise g.calm g.tk (pmkN_oex (dvs := []) hT iC tI F (g.rm.mono hk) hb .nil L2.pass0 hg hm ha hdb he hpl))
  refine ⟨G, α, Γ, O, _, xe, sl, rel, h, fun vs O1 h1 us G1 α1 H1 e1 p1 rel1 r1 => ?_, xp⟩
  dsimp only at h1
  split at h1
  · next ds ed =>
    rw [datas_eq ed] at r1
    have rp := r1.toD
    have lu : us.length = fs.length := rp.length.trans h1.1
    refine ⟨by omega, fun a na => ?_⟩
    refine ⟨a, C, us ++ [], rfl, by rw [List.append_nil]; exact lu, hT, hno, upd_same, fun d hd hda => ⟨rfl, d, (fs.zip (us ++ [])).reverse, upd_same, by rw [upd_ne hda, upd_same], by rw [upd_ne hda] at hd; exact hd, ?_⟩⟩
    rw [List.append_nil]
    have hd1 : H1 d = none := by rw [upd_ne hda] at hd; exact hd
    have eH : upd (del (upd (upd (upd H1 a (exo a C none)) d (exd d (fs.zip us).reverse)) a (exo a C (some d))) a) d (.xd (fs.zip us).reverse) = upd H1 d (.xd (fs.zip us).reverse) := by
      funext b
      by_cases hb : b = d
      · subst hb; rw [upd_same, upd_same]
      · rw [upd_ne hb, upd_ne hb]
        by_cases hba : b = a
        · subst hba; rw [del_same]; exact na.symm
        · rw [del_ne hba, upd_ne hba, upd_ne hb, upd_ne hba]
    rw [eH]
    have gd : G1 d = none := rel1.ex.free hd1
    refine xp _ _ _ h1.2 _ _ _ _ _ _ (e1.trans (Ex.new gd)) p1 (rel1.lay hd1) (sl.mono (e1.trans (Ex.new gd)) p1) ⟨C, hm, rfl, fun z => absurd z (zip_ne hfs h1.1), fun _ => ⟨d, _, rfl, upd_same, ?_⟩⟩
    have hp := paired_rev (zip_paired lu (rp.mono (Ex.new gd (o := .xd (fs.zip us).reverse))))
    exact hp
  · exact h1.elim
/-! #### try .. except C: suite; .. as n -/
/-- subs: of each class that may come whether it is C or under it -/
def dTry (subs : List (Str × Bool)) (body suite : DSt) : DSt := fun D xe Γ O => body D (fun ex Γ' O' => match subs.lookup ex.cls with
  | some true => suite D X0 Γ' O'
  | some false => xe ex Γ' O'
  | none => False) Γ O
def dTryAs (subs : List (Str × Bool)) (i : Nat) (body : DSt) (suite : Addr → Option Addr → DSt) : DSt := fun D xe Γ O => body D (fun ex Γ' O' => match subs.lookup ex.cls with
  | some true => ∀ a d, suite a d { D with nx := fun Γ1 O1 => D.nx (Γ1.set i none) O1, bk := fun Γ1 O1 => D.bk (Γ1.set i none) O1, ct := fun Γ1 O1 => D.ct (Γ1.set i none) O1 } X0 (Γ'.set i (some (.o a d ex.fs))) O'
  | some false => xe ex Γ' O'
  | none => False) Γ O
/-- which classes are c or under it -/
def Subs (K : Fg) (mg : Str → Option Value) (c : Value) (subs : List (Str × Bool)) : Prop := ∀ nm b, subs.lookup nm = some b → ∀ C, mg nm = some (.ref C) → PySem.W.exmOne K (.ref C) c = some b
theorem Good.tr {pn : List (Addr × Obj)} {xe : Value → Shared → Prop} {W : WX} (g : Good X Wx k) (tk : L2N.Takes (X.tr pn xe) W) (ps : PassesOwn (model X.prog X.w) X.A X.env xe) : Good (X.tr pn xe) W k := ⟨tk, ps, g.rm, g.calm, g.nd⟩
theorem ds_try {body suite : List Stmt} {b₀ : Stmt} {x : Str} {c : Value} {np pos pos' : Pos} {subs : List (Str × Bool)} {tb ts : DSt} (g : Good X Wx k) (hs : X.stack = X.env :: X.outer) (hf : X.env.frame = some X.env.locals) (hc : Names X x c) (hsub : Subs X.K X.mg c subs)
    (hb : ∀ (W : WX) (pn : List (Addr × Obj)) (xe : Value → Shared → Prop), Good (X.tr pn xe) W k → DSs (X.tr pn xe) W body tb)
    (hsu : ∀ (a : Addr) (oe : Obj) (pn : List (Addr × Obj)), (∃ vs, oe.data = .fields vs) → DSs (X.suite a ((a, oe) :: pn)) W0 (b₀ :: suite) ts) :
    DS X Wx (.Try body [.ExceptHandler (some (.Name x np)) none (b₀ :: suite) pos'] [] [] pos) (dTry subs tb ts) := by
  refine ps_imp (fun D σ H ⟨G, α, Γ, O, DD, xe, sl, rel, h, p, xp⟩ => ?_) (L2N.ps_try_many (tb := fun W => liftS X.K X.mg W tb) (l := [(c, fun _ _ _ => liftS X.K X.mg W0 ts)]) hs hf g.tk (fun W pn xe tk ps => hb W pn xe (g.tr tk ps)) (.cons hc (fun a oe cls d pn hz hf => hsu a oe pn hf) .nil))
  refine ⟨G, α, Γ, O, DD, _, sl, rel, h, p, fun ex Γ' O' h' cls d σ' G' α' H' e' p' rel' sl' xo => ?_⟩
  dsimp only at h'
  obtain ⟨C, hC, ec, hd⟩ := id xo
  subst ec
  split at h'
  · next es => exact ⟨true, hsub _ _ es C hC, fun _ a na => ⟨G', α', Γ', O', DD, X0, sl', rel', h', p.mono e' p', xp0⟩, fun z => absurd z (by decide)⟩
  · next es => exact ⟨false, hsub _ _ es C hC, fun z => absurd z (by decide), fun _ => xp _ _ _ h' _ _ _ _ _ _ e' p' rel' sl' xo⟩
  · exact h'.elim
/-- e.f, e the exception that is handled -/
def dXf (a : Addr) (d : Option Addr) (f : Str) (we : DEx) : DEx := fun Γ O R xe => we Γ O (fun x O1 => match x with
  | .o b d' fs => b = a ∧ d' = d ∧ (match fs.lookup f with
    | some y => R (.d y) O1
    | none => False)
  | _ => False) xe
/-- a store of a name in a suite -/
theorem ds_setS (hN : X.N.Nodup) {i : Nat} {x : Str} {pos' : Pos} (hi : X.N[i]? = some x) (hx : Loc X.env.scope x) (he : DE X Wx e we) (hs : swapsWith e (some (.Name x pos')) pos.line X.env = pure false := by rfl) (hf : X.fn x = true ∨ X.env.scope.names.lookup x = some .local := by first | exact .inl rfl | exact .inr rfl | assumption) :
    DS X Wx (.Assign [.Name x pos'] e pos) (dAsg we (.nm i)) := ps_imp (fun D σ H h => lift_asg h) (ps_set hN hi hx he hs hf)
end
end Dl
namespace Dl
open PySem PySem.Spec PyProof.Rows L2
/-! #### a def of the program, as it is called -/
structure Has (P : Program) (w : World) (K : Fg) (mg : Str → Option Value) (base : Heap) (x : Str) (ps : List Str) (j : Nat) (df : DFn) : Prop where
  ex : ∃ f fd, FnOk P w K mg base (L2N.CX P w) j f fd ps (liftF K mg df) ∧ mg x = some (.ref f) ∧ PySem.W.keepIn K (.ref f) = true ∧ Binds K fd ps []
/-- no name of the module's -/
structure NB (mg : Str → Option Value) : Prop where
  len : mg "len" = none
  abs : mg "abs" = none
  max : mg "max" = none
  min : mg "min" = none
  tuple : mg "tuple" = none
  list : mg "list" = none
  all : mg "all" = none
  any : mg "any" = none
  sorted : mg "sorted" = none
  set : mg "set" = none
  isinstance : mg "isinstance" = none
  range : mg "range" = none
  enumerate : mg "enumerate" = none
  zip : mg "zip" = none
  int : mg "int" = none
  str : mg "str" = none
  bool : mg "bool" = none
  dict : mg "dict" = none
  repr : mg "repr" = none
  sum : mg "sum" = none
  type : mg "type" = none
  reversed : mg "reversed" = none
/-- a call of a def that raises nothing -/
def dCall0 (f : DFn) (ws : DA) : DEx := fun Γ O R xe => ws Γ O (fun vs O1 => f vs O1 R fun _ _ => False) xe
section
variable {X : Cx} {Wx : WX} {k : Nat} {a b c e o : Expr} {wa wb wc we wo : DEx} {pos p2 p : Pos} {ws : DA} {es : List Expr} {ps : List Str} {df : DFn} {x : Str}
theorem no_exnN {E : XK} (h : ∀ c d H, ¬ E c d H) : Passes (L2N.CX X.prog X.w) X E := fun pins σ H s e s' I q => by
  obtain ⟨a, B, H', cls, d, _, _, _, _, _, _, _, q⟩ := q
  exact absurd q (h _ _ _)
theorem de_callH {j : Nat} (g : Good X Wx k) (T : Has X.prog X.w X.K X.mg X.base x ps j df) (hj : j ≤ k) (ha : DAs X Wx (e :: es) ws)
    (hg : Gl X x := by rfl) (hdb : (x == ("__debug__" : Str)) = false := by decide) (he : starEach (e :: es) X.env = (false, eval e X.env) :: starEach es X.env := by rfl) (hpl : (backTo pos (starEach es X.env)).any (·.1) = false := by rfl) :
    DE X Wx (.Call (.Name x p) (e :: es) [] pos) (dCall df ws) := by
  obtain ⟨f, fd, F, hm, hk, hb⟩ := T.ex
  exact de_call g F hj hm hk hb ha hg hdb he hpl
theorem de_call0 {j : Nat} (g : Good X Wx k) (T : Has X.prog X.w X.K X.mg X.base x ps j df) (hj : j ≤ k) (ha : DAs X Wx (e :: es) ws)
    (hg : Gl X x := by rfl) (hdb : (x == ("__debug__" : Str)) = false := by decide) (he : starEach (e :: es) X.env = (false, eval e X.env) :: starEach es X.env := by rfl) (hpl : (backTo pos (starEach es X.env)).any (·.1) = false := by rfl) :
    DE X Wx (.Call (.Name x p) (e :: es) [] pos) (dCall0 df ws) := by
  obtain ⟨f, fd, F, hm, hk, hb⟩ := T.ex
  refine pe_imp (fun σ H Q ⟨G, α, Γ, O, R, xe, sl, rel, h, p, xp⟩ => ?_) (pe_call (E := fun _ _ _ => False) F (g.rm.mono hj) hg hm hk hb .nil (no_exnN fun _ _ _ z => z) ha hdb he hpl)
  refine ⟨G, α, Γ, O, _, xe, sl, rel, h, fun vs O1 h1 us G1 α1 H1 e1 p1 rel1 r1 => ?_, xp⟩
  show liftF X.K X.mg df (us ++ []) H1 Q _
  rw [List.append_nil]
  exact ⟨G1, α1, vs, O1, R, _, r1, rel1, h1, p.mono e1 p1, fun ex O2 h2 cls d G2 α2 H2 e2 p2 rel2 xo => h2.elim⟩
/-! #### -x -/
def dNeg (wa : DEx) : DEx := fun Γ O R xe => wa Γ O (fun r O1 => match r with
  | .d (.int i) => R (.d (.int (-i))) O1
  | _ => False) xe
theorem de_neg (ha : DE X Wx a wa) : DE X Wx (.UnaryOp .USub a pos) (dNeg wa) := by
  refine pe_imp (fun σ H Q ⟨G, α, Γ, O, R, xe, sl, rel, h, p, xp⟩ => ?_) (pe_un un_neg ha)
  refine ⟨G, α, Γ, O, _, xe, sl, rel, h, fun x O1 h1 u G1 α1 H1 e1 p1 rel1 r1 => ?_, xp⟩
  dsimp only at h1
  split at h1
  · next i =>
    cases r1
    exact ⟨i, rfl, p _ _ h1 _ _ _ _ e1 p1 rel1 (.int _)⟩
  · exact h1.elim
/-! #### operators by the place in the text -/
theorem op_eqG (g : Good X Wx k) : OpR X (compareOp .Eq) (rEqD X.K) := op_eqD (by have := g.rm.un; omega)
theorem op_neG (g : Good X Wx k) : OpR X (compareOp .NotEq) (rNeD X.K) := op_neD (by have := g.rm.un; omega)
/-- <, > of ints or of data -/
def dLt2 : D2 := fun x y O R => match x, y with
  | .d (.int i), .d (.int j) => R (.d (.bool (decide (i < j)))) O
  | x, y => dLtD (fun d e => PySem.W.dataLt d e) x y O R
def dGt2 : D2 := fun x y O R => match x, y with
  | .d (.int i), .d (.int j) => R (.d (.bool (decide (j < i)))) O
  | x, y => dLtD (fun d e => PySem.W.dataLt e d) x y O R
theorem s_lt2 {K : Fg} {mg : Str → Option Value} : OpS K mg dLt2 (fun x y H Q => rI0 (fun i j => .bl (decide (i < j))) x y H Q ∨ rLtD K (fun d e => PySem.W.dataLt d e) x y H Q) := by
  intro G α O H x y u v R Q rel r1 r2 h p
  unfold dLt2 at h
  split at h
  · cases r1; cases r2
    exact .inl ⟨_, _, rfl, rfl, p.here h rel (.bl _)⟩
  · exact .inr (s_ltD _ _ _ _ _ _ _ _ _ _ rel r1 r2 h p)
theorem s_gt2 {K : Fg} {mg : Str → Option Value} : OpS K mg dGt2 (fun x y H Q => rI0 (fun i j => .bl (decide (j < i))) x y H Q ∨ rLtD K (fun d e => PySem.W.dataLt e d) x y H Q) := by
  intro G α O H x y u v R Q rel r1 r2 h p
  unfold dGt2 at h
  split at h
  · cases r1; cases r2
    exact .inl ⟨_, _, rfl, rfl, p.here h rel (.bl _)⟩
  · exact .inr (s_ltD _ _ _ _ _ _ _ _ _ _ rel r1 r2 h p)
theorem op_lt2 (g : Good X Wx k) : OpR X (compareOp .Lt) (fun x y H Q => rI0 (fun i j => .bl (decide (i < j))) x y H Q ∨ rLtD X.K (fun d e => PySem.W.dataLt d e) x y H Q) := or_op op_lt (op_ltD (hu100 g.rm))
theorem op_gt2 (g : Good X Wx k) : OpR X (compareOp .Gt) (fun x y H Q => rI0 (fun i j => .bl (decide (j < i))) x y H Q ∨ rLtD X.K (fun d e => PySem.W.dataLt e d) x y H Q) := or_op op_gt (op_gtD (hu100 g.rm))
/-! #### len(set(texts)) -/
def dLenSet (wa : DEx) : DEx := fun Γ O R xe => wa Γ O (fun x O1 => match asL x O1 with
  | some ws => (match datas ws with
    | some ds => (match strsD ds with
      | some ys => ys.length ≤ 1000 ∧ R (.d (.int ((met ys).length : Nat))) O1
      | none => False)
    | none => False)
  | none => False) xe
def tLenSetS (K : Fg) (ta : TE) : TE := fun σ H Q => ta σ H fun x H1 => ∃ (l : Addr) (ys : List Str), x = .ref l ∧ SqL K H1 l (ys.map V.str) ∧ ys.length ≤ 1000 ∧ Q (.int ((met ys).length : Nat)) H1
theorem pe_lenSetS {a : Expr} {ta : TE} {p p2 q pos : Pos} (hg : Gl X "len") (hm : X.mg "len" = none) (hg2 : Gl X "set") (hm2 : X.mg "set" = none) (ha : PE X a ta) (hc : X.calm = true)
    (na : starEach [a] X.env = (false, eval a X.env) :: starEach [] X.env := by rfl) : PE X (.Call (.Name "len" p) [.Call (.Name "set" p2) [a] [] q] [] pos) (tLenSetS X.K ta) := by
  refine ⟨fun pins s σ H Q I h => ?_⟩
  refine Call_ (ld_blt I hg hm boot_len ?_)
  refine PyProof.Rows.callWith_builtin1 (PyProof.Rows.args_cons ?_ rfl) rfl rfl
  refine Call_ (ld_blt I hg2 hm2 boot_set ?_)
  refine PyProof.Rows.callWith_type1 (PyProof.Rows.args_cons (thn (ha.run pins s σ H _ I h) fun v s1 ⟨x, H1, I1, r1, q1⟩ => PyProof.Rows.args_nil ?_) na) na rfl
  obtain ⟨l, ys, ex, hq, hl, q1⟩ := q1
  subst ex
  obtain rfl : v = Value.ref l := r1
  obtain ⟨its, r, pl, hz⟩ := I1.list hq
  have hlen : its.toArray.size = ys.length := by rw [List.size_toArray, ← r.length, List.length_map]
  have hm := met_le ys
  refine set_texts (I1.ok.hd hc) pl.isList (by simpa using strsAre_of r) (by rw [hlen]; unfold scanBound; omega) fun h' tk hS hk => ?_
  refine PyProof.Rows.args_nil ?_
  obtain ⟨ob, es, ep, t, ho, hex, hd, _, _, _, hf, hn⟩ := hS
  have I2 : Inv X pins σ H1 { s1 with heap := h', toks := tk } := I1.kept fun b o e => hk b o (Heap.lt_size e) e
  exact call_len_set ho hex hd hf (by rw [hn] <;> omega) ⟨.int ((met ys).length : Nat), H1, I2.tok _, ⟨_, by rw [hn]⟩, q1⟩
theorem de_lenSet {p p2 q pos : Pos} (g : Good X Wx k) (nb : NB X.mg) (ha : DE X Wx a wa) (hg : Gl X "len" := by rfl) (hg2 : Gl X "set" := by rfl) (na : starEach [a] X.env = (false, eval a X.env) :: starEach [] X.env := by rfl) :
    DE X Wx (.Call (.Name "len" p) [.Call (.Name "set" p2) [a] [] q] [] pos) (dLenSet wa) := by
  refine pe_imp (fun σ H Q ⟨G, α, Γ, O, R, xe, sl, rel, h, p, xp⟩ => ?_) (pe_lenSetS hg nb.len hg2 nb.set ha g.calm na)
  refine ⟨G, α, Γ, O, _, xe, sl, rel, h, fun x O1 h1 u G1 α1 H1 e1 p1 rel1 r1 => ?_, xp⟩
  dsimp only at h1
  split at h1
  · next ws ew =>
    split at h1
    · next ds ed =>
      split at h1
      · next ys ey =>
        obtain ⟨a, vs, rfl, hH, rl⟩ := asL_ok rel1 r1 ew
        rw [datas_eq ed, strsD_eq ey] at rl
        obtain ⟨ev, ok⟩ := rpL_strs_inv rl.toD
        subst ev
        exact ⟨a, ys, rfl, SqL.of hH, h1.1, p _ _ h1.2 _ _ _ _ e1 p1 rel1 (.int _)⟩
      · exact h1.elim
    · exact h1.elim
  · exact h1.elim
/-! #### is of truth values and None, whatever stands there -/
def dIs2 (neg : Bool) : D2 := fun x y O R => match y with
  | .d .none => R (.d (.bool (if neg then !isNone x else isNone x))) O
  | .d (.bool b) => (match x with
    | .d (.bool a) => R (.d (.bool (if neg then !decide (a = b) else decide (a = b)))) O
    | _ => False)
  | _ => False
theorem op_is2 : OpR X (compareOp .Is) (fun x y H Q => (y = .non ∧ Q (.bl (decide (x = .non))) H) ∨ rIsB x y H Q) := or_op op_isN op_isBl
theorem s_is2 {K : Fg} {mg : Str → Option Value} : OpS K mg (dIs2 false) (fun x y H Q => (y = .non ∧ Q (.bl (decide (x = .non))) H) ∨ rIsB x y H Q) := by
  intro G α O H x y u v R Q rel r1 r2 h p
  unfold dIs2 at h
  split at h
  · cases r2
    refine .inl ⟨rfl, ?_⟩
    rw [isNone_ok r1]
    exact p.here h rel (.bl _)
  · split at h
    · cases r1; cases r2
      exact .inr ⟨_, _, rfl, rfl, p.here h rel (.bl _)⟩
    · exact h.elim
  · exact h.elim
theorem op_isnot2 : OpR X (compareOp .IsNot) (fun x y H Q => (y = .non ∧ Q (.bl (!decide (x = .non))) H) ∨ rNotB x y H Q) := or_op op_notN op_notBl
theorem s_isnot2 {K : Fg} {mg : Str → Option Value} : OpS K mg (dIs2 true) (fun x y H Q => (y = .non ∧ Q (.bl (!decide (x = .non))) H) ∨ rNotB x y H Q) := by
  intro G α O H x y u v R Q rel r1 r2 h p
  unfold dIs2 at h
  split at h
  · cases r2
    refine .inl ⟨rfl, ?_⟩
    rw [isNone_ok r1]
    exact p.here h rel (.bl _)
  · split at h
    · cases r1; cases r2
      exact .inr ⟨_, _, rfl, rfl, p.here h rel (.bl _)⟩
    · exact h.elim
  · exact h.elim
/-! #### an except clause, its class by name -/
structure SubC (K : Fg) (mg : Str → Option Value) (x : Str) (subs : List (Str × Bool)) : Prop where
  ex : ∃ C, mg x = some (.ref C) ∧ Subs K mg (.ref C) subs
theorem ds_tryC {body suite : List Stmt} {b₀ : Stmt} {np pos' : Pos} {subs : List (Str × Bool)} {tb ts : DSt} (g : Good X Wx k) (hs : X.stack = X.env :: X.outer) (hf : X.env.frame = some X.env.locals) (S : SubC X.K X.mg x subs)
    (hb : ∀ (W : WX) (pn : List (Addr × Obj)) (xe : Value → Shared → Prop), Good (X.tr pn xe) W k → DSs (X.tr pn xe) W body tb)
    (hsu : ∀ (a : Addr) (oe : Obj) (pn : List (Addr × Obj)), (∃ vs, oe.data = .fields vs) → DSs (X.suite a ((a, oe) :: pn)) W0 (b₀ :: suite) ts) (hg : Gl X x := by rfl) (hdb : (x == ("__debug__" : Str)) = false := by decide) :
    DS X Wx (.Try body [.ExceptHandler (some (.Name x np)) none (b₀ :: suite) pos'] [] [] pos) (dTry subs tb ts) := by
  obtain ⟨C, hm, hsub⟩ := S.ex
  exact ds_try g hs hf ⟨hg, hdb, .inl hm⟩ hsub hb hsu
/-! #### the end -/
theorem subs_nil {K : Fg} {mg : Str → Option Value} {c : Value} : Subs K mg c [] := fun nm b h => by cases h
theorem exm_of2 {K : Fg} {S C : Addr} {b : Bool} (h1 : PySem.W.subIn K (.ref C) (.type "BaseException") = some true) (h2 : PySem.W.isClsIn K C = true) (h3 : PySem.W.typeIn K (.ref C) = some (.type "type")) (h4 : PySem.W.subIn K (.ref S) (.ref C) = some b) :
    PySem.W.exmOne K (.ref S) (.ref C) = some b := by
  have e1 : (PySem.W.subIn K (.ref C) (.type "BaseException") == some true) = true := by rw [h1] <;> rfl
  have e2 : ((PySem.W.clsIn K C).isSome && PySem.W.typeIn K (.ref C) == some (.type "type")) = true := by
    have h2' : (PySem.W.clsIn K C).isSome = true := h2
    rw [h2', h3] <;> rfl
  show (if (PySem.W.subIn K (.ref C) (.type "BaseException") == some true) = true then (if ((PySem.W.clsIn K C).isSome && PySem.W.typeIn K (.ref C) == some (.type "type")) = true then PySem.W.subIn K (.ref S) (.ref C) else none) else none) = some b
  rw [if_pos e1, if_pos e2]
  exact h4
theorem subs_cons {K : Fg} {mg : Str → Option Value} {C S : Addr} {nm : Str} {b : Bool} {r : List (Str × Bool)} (h1 : PySem.W.subIn K (.ref C) (.type "BaseException") = some true) (h2 : PySem.W.isClsIn K C = true) (h3 : PySem.W.typeIn K (.ref C) = some (.type "type"))
    (hm : mg nm = some (.ref S)) (h4 : PySem.W.subIn K (.ref S) (.ref C) = some b) (hr : Subs K mg (.ref C) r) : Subs K mg (.ref C) ((nm, b) :: r) := fun n b' h D hD => by
  by_cases z : n = nm
  · subst z
    have e : List.lookup n ((n, b) :: r) = some b := by simp [List.lookup]
    rw [e] at h
    cases h
    rw [hm] at hD
    cases hD
    exact exm_of2 h1 h2 h3 h4
  · have zb : (n == nm) = false := by simpa using z
    have e : List.lookup n ((nm, b) :: r) = List.lookup n r := by simp [List.lookup, zb]
    rw [e] at h
    exact hr n b' h D hD
theorem all_nil {α : Type} {p : α → Prop} : ∀ x ∈ ([] : List α), p x := fun _ h => nomatch h
theorem all_cons {α : Type} {p : α → Prop} {a : α} {l : List α} (h : p a) (t : ∀ x ∈ l, p x) : ∀ x ∈ a :: l, p x := fun x hx => by
  rcases List.mem_cons.mp hx with rfl | hx
  · exact h
  · exact t x hx
theorem no_cx {P : Program} {w : World} {o : List Env} {H : Hp} {s s' : Shared} {e : Value} (z : LM.CX true P w o H s (fun _ _ _ => False) e s') : False := by
  obtain ⟨_, _, _, _, _, _, _, _, _, _, _, _, _, _, z⟩ := z
  exact z
theorem law_in {K : Fg} {mg : Str → Option Value} {df : DFn} {vs : List V} {H : Hp} {Q : VK} {E : XK} (hlaw : ∀ (ns : List Int), ns.length ≤ 63 → ∀ (R : DK) (xe : Exn → Oh → Prop), (∀ O', R (.d (.bool true)) O') → df [.d (.dict [(.none, .list (ns.map PyData.int))])] [] R xe)
    (h : ∃ (a : Addr) (ns : List Int), vs = [.ref a] ∧ SqL K H a (ns.map V.int) ∧ ns.length ≤ 63 ∧ ∀ H', Q (.bl true) H') : liftF K mg df vs H Q E := by
  obtain ⟨a, ns, rfl, hS, hl, q⟩ := h
  refine ⟨H, ⟨[], []⟩, [.d (.dict [(.none, .list (ns.map PyData.int))])], [], fun r _ => r = .d (.bool true), fun _ _ => False, .cons (.scr ns hS) .nil, ⟨Ex.refl _, rfl, List.nodup_nil, fun _ h => (nomatch h), fun k a c h => absurd h (by show ¬ (([] : List Addr)[k]? = some a); simp), fun p h => (nomatch h)⟩, hlaw ns hl _ _ fun _ => rfl, fun r O' e v G' α' H' _ _ _ rv => ?_, fun ex O' z => z.elim⟩
  subst e
  cases rv
  exact q H'
/-! #### constants of the module -/
/-- a comprehension's names -/
theorem blk_ok {N : List Str} {sc scope : Scope} {own : List (Str × Nat)} (h : blkC N sc scope own = true) : BlkOk N sc scope own := blkOk_by h
end
end Dl
/-! ### list.extend, min of alike things -/
namespace Dl
open PySem PySem.Spec PyProof.Rows L2
/-! #### min -/
theorem vals_at : ∀ {vs : List V} {us : List Value} {i : Nat} {u : Value}, Vals vs us → us[i]? = some u → ∃ v, vs[i]? = some v ∧ RelV v u
  | _, _, _, _, .nil, h => by simp at h
  | _, _, 0, _, .cons r _, h => by simp at h; subst h; exact ⟨_, rfl, r⟩
  | _, _, i + 1, _, .cons _ t, h => by
    obtain ⟨v, h1, h2⟩ := vals_at t (by simpa using h)
    exact ⟨v, by simpa using h1, h2⟩
end Dl
/-! ### dict(zip(xs, ys)) -/
namespace Dl
open PySem PySem.Spec PyProof.Rows L2
section
variable {X : Cx} {a b : Expr} {ta : TA} {p p2 pos pos2 : Pos}
theorem isList_kept {h h' : Heap} {l : Addr} {xs : Array Value} (hk : ∀ c o, h.get? c = some o → h'.get? c = some o) (x : h.IsList l xs) : h'.IsList l xs := by
  obtain ⟨o, ho, hc, n, hd⟩ := x
  exact ⟨o, hk _ _ ho, hc, n, hd⟩
def tDictZip (K : Fg) (ta : TA) : TE := fun σ H Q => ta σ H fun vs H1 => ∃ (x y : Addr) (ks : List Key) (ys : List V), vs = [.ref x, .ref y] ∧ SqL K H1 x (ks.map kV) ∧ SqL K H1 y ys ∧ ks.length = ys.length ∧
  ∀ q, H1 q = none → Q (.ref q) (upd H1 q (.dK (mergeK [] (ks.zip ys))))
theorem zip_KV : ∀ {ks : List Key} {ys : List V} {us : List Value}, Vals ys us → KV (ks.zip ys) (ks.zip us)
  | [], _, _, _ => .nil
  | _ :: _, _, _, .nil => .nil
  | k :: ks, _, _, .cons r t => .cons ⟨rfl, r⟩ (zip_KV t)
theorem pe_dictZip (hd : X.mg "dict" = none) (hz : X.mg "zip" = none) (ha : PA X [a, b] ta) (hc : X.calm = true) (hgd : Gl X "dict" := by rfl) (hgz : Gl X "zip" := by rfl)
    (hs : starEach [a, b] X.env = (false, eval a X.env) :: starEach [b] X.env := by rfl) (hpl : (backTo pos2 (starEach [b] X.env)).any (·.1) = false := by rfl)
    (hs1 : starEach [.Call (.Name "zip" p2) [a, b] [] pos2] X.env = (false, eval (.Call (.Name "zip" p2) [a, b] [] pos2) X.env) :: starEach [] X.env := by rfl) :
    PE X (.Call (.Name "dict" p) [.Call (.Name "zip" p2) [a, b] [] pos2] [] pos) (tDictZip X.K ta) := by
  refine ⟨fun pins s σ H Q I h => ?_⟩
  refine Call_ (ld_blt I hgd hd PyProof.Rows.boot_dict (PyProof.Rows.callWith_type1 ?_ hs1 rfl))
  rw [hs1]
  show wpAny _ _ (spliced ((false, eval (.Call (.Name "zip" p2) [a, b] [] pos2) X.env) :: backTo pos (starEach [] X.env))) _ _ s
  refine Calls.spliced_cons ?_
  refine Call_ (ld_blt I hgz hz PyProof.Rows.boot_zip (PyProof.Rows.callWith_type1 (thn (ha.run pos2 pins s σ H _ I h) fun us s1 ⟨vs, H1, I1, r1, q1⟩ => ?_) hs hpl))
  obtain ⟨x, y, ks, ys, ex, hx, hy, hl, q⟩ := q1
  subst ex
  cases r1 with
  | cons r rr =>
    cases rr with
    | cons r' rr =>
      cases rr
      cases r
      cases r'
      obtain ⟨its, rv, p1, z1⟩ := I1.list hx
      obtain ⟨its2, rv2, p2, z2⟩ := I1.list hy
      have l1 : its.length = ks.length := by rw [← rv.length, List.length_map]
      have l2 : its2.length = ys.length := rv2.length.symm
      refine call_zip_2 p1.isList p2.isList fun h' hz hTI hTO h1 h2 hsz hk => ?_
      refine Calls.spliced_nil ?_
      have D := PySem.W.ktu_apart s1.heap.objs.size x y p1.lt p2.lt
      have I2 : Inv X pins σ H1 { s1 with heap := h' } := I1.kept (t' := s1.toks) hk
      have kv := zip_KV (ks := ks) rv2
      refine PySem.call_dict_pairs (prog := X.prog) (w := X.w) (knd := mixKind X.prog X.w) (kvs := ks.zip its2) (PairArg.zip _ _ _ _ _ x y D its.toArray its2.toArray) (I2.ok.hd hc) ⟨hz, hTI, ⟨_, _, hTO⟩, h1, h2, isList_kept hk p1.isList, isList_kept hk p2.isList⟩ ⟨?_, ?_⟩ ?_ fun h'' tk hd' hk' => ?_
      · rw [List.length_zip, List.size_toArray, List.size_toArray, l1]
      · rintro i key v ⟨e1, e2⟩
        rw [List.getElem?_toArray] at e1 e2
        obtain ⟨v', h1, h2⟩ := vals_at rv e1
        rw [List.getElem?_map] at h1
        cases hk1 : ks[i]? with
        | none => rw [hk1] at h1; cases h1
        | some k =>
          rw [hk1] at h1
          cases h1
          refine ⟨k, ?_, kV_is (P := X.prog) (w := X.w) h2⟩
          rw [List.getElem?_zip_eq_some]
          exact ⟨hk1, e2⟩
      · rw [List.size_toArray, List.size_toArray]
        exact Nat.le_trans (Nat.min_le_left _ _) (by rw [l1, ← List.length_map (f := kV)]; exact z1)
      · have hlt : s1.heap.objs.size ≤ h'.objs.size := by rw [hsz]; exact Nat.le_add_right _ _
        have hm : (h'.objs.size == sysModules) = false := beq_eq_false_iff_ne.mpr (Nat.ne_of_gt I2.big)
        have hlen : (mergeK [] (ks.zip ys)).length ≤ sizeLine := by
          refine Nat.le_trans (length_mergeK (ks.zip ys) []) ?_
          rw [List.length_nil, Nat.zero_add, List.length_zip]
          exact Nat.le_trans (Nat.min_le_left _ _) (by rw [← List.length_map (f := kV)]; exact z1)
        exact ⟨.ref h'.objs.size, upd H1 h'.objs.size (.dK (mergeK [] (ks.zip ys))), I1.laid (t' := tk) (fun c o e => hk' c o (fun hw => by
            have hlt2 : c < s1.heap.objs.size := Heap.lt_size e
            have hge : s1.heap.objs.size ≤ c := by
              rcases List.mem_cons.mp hw with z | hw
              · rw [z]; exact Nat.le_add_right _ _
              rcases List.mem_cons.mp hw with z | hw
              · rw [z]; exact Nat.le_add_right _ _
              rcases List.mem_cons.mp hw with z | hw
              · rw [z]; exact Nat.le_refl _
              rcases List.mem_cons.mp hw with z | hw
              · rw [z]; exact Nat.le_add_right _ _
              cases hw
            exact Nat.lt_irrefl _ (Nat.lt_of_lt_of_le hlt2 hge)) (hk c o e)) hlt (show ObjOk X.prog X.w _ _ _ (.dK (mergeK [] (ks.zip ys))) from ⟨hlen, hm, merged [] (ks.zip its2), KV.merge kv .nil, hd'⟩), rfl, q _ (I1.hok.fresh hlt)⟩
end
end Dl
/-! ### a try whose body raises nothing -/
/-! ### walks along dicts that never change -/
namespace Dl
open PySem PySem.Spec PyProof.Rows L2
section
variable {K : Fg} {mg : Str → Option Value} {G : Hp} {α : Al}
theorem RpK.get : ∀ {es : List (Key × V)} {ds : List (PyData × PyData)} {i : Nat} {q d : PyData}, RpK K G es ds → ds[i]? = some (q, d) → ∃ k v, es[i]? = some (k, v) ∧ q = keyD k ∧ keyOk k = true ∧ Rp K G v d
  | _, _, _, _, _, .nil, e => by simp at e
  | _, _, 0, _, _, .cons h0 h1 h2 _, e => by
    simp only [List.getElem?_cons_zero, Option.some.injEq, Prod.mk.injEq] at e
    obtain ⟨rfl, rfl⟩ := e
    exact ⟨_, _, rfl, h0, h1, h2⟩
  | _, _, i + 1, _, _, .cons _ _ _ t, e => by
    obtain ⟨k, v, q1, q2⟩ := RpK.get (i := i) t (by simpa using e)
    exact ⟨k, v, by simpa using q1, q2⟩
theorem RpK.len : ∀ {es : List (Key × V)} {ds : List (PyData × PyData)}, RpK K G es ds → es.length = ds.length
  | _, _, .nil => rfl
  | _, _, .cons _ _ _ t => by rw [List.length_cons, List.length_cons, RpK.len t]
end
end Dl
/-! ### more of dicts and lists -/
namespace Dl
open PySem PySem.Spec PyProof.Rows L2
section
variable {X : Cx} {Wx : WX} {k : Nat} {a b c e o i : Expr} {wa wb wc we wo wi : DEx} {pos p2 apos cpos : Pos} {ws : DA}
/-! #### d.get(k) -/
/-! #### l.clear() -/
/-! #### {a: b} -/
/-! #### dict(zip(xs, ys)) -/
def mergeW (kvs more : List (Key × W)) : List (Key × W) := more.foldl (fun acc kv => putW acc kv.1 kv.2) kvs
def keysW : List W → Option (List Key)
  | [] => some []
  | x :: r => match keyW x, keysW r with
    | some q, some qs => some (q :: qs)
    | _, _ => none
def dDictZip (ws : DA) : DEx := fun Γ O R xe => ws Γ O (fun xs O1 => match xs with
  | [x, y] => (match asL x O1, asL y O1 with
    | some us, some vs => (match keysW us with
      | some qs => qs.length = vs.length ∧ R (.c O1.length) (O1 ++ [.dic (mergeW [] (qs.zip vs))])
      | none => False)
    | _, _ => False)
  | _ => False) xe
theorem RK.merge {K : Fg} {G : Hp} {α : Al} : ∀ {ms : List (Key × V)} {ns : List (Key × W)}, RK K G α ms ns → ∀ {vs : List (Key × V)} {ws : List (Key × W)}, RK K G α vs ws → RK K G α (mergeK vs ms) (mergeW ws ns)
  | _, _, .nil, _, _, h => h
  | (q, v) :: ms, (q', w) :: ns, .cons e t, vs, ws, h => by
    obtain ⟨e1, e2⟩ := e
    have e1 : q = q' := e1
    subst e1
    exact RK.merge t (h.put e2)
theorem keysW_ok {K : Fg} {G : Hp} {α : Al} : ∀ {vs : List V} {ws : List W} {qs : List Key}, RvL K G α vs ws → keysW ws = some qs → vs = qs.map kV
  | _, _, _, .nil, e => by cases e; rfl
  | _, x :: ws, qs, .cons r t, e => by
    unfold keysW at e
    split at e
    · next q qs' e1 e2 =>
      cases e
      obtain ⟨rfl, _⟩ := keyW_ok r e1
      rw [List.map_cons, keysW_ok t e2]
    · cases e
theorem zip_RK {K : Fg} {G : Hp} {α : Al} : ∀ {qs : List Key} {vs : List V} {ws : List W}, RvL K G α vs ws → RK K G α (qs.zip vs) (qs.zip ws)
  | [], _, _, _ => .nil
  | _ :: _, _, _, .nil => .nil
  | q :: qs, _, _, .cons r t => .cons ⟨rfl, r⟩ (zip_RK t)
theorem de_dictZip (g : Good X Wx k) (nb : NB X.mg) (ha : DAs X Wx [a, b] ws) (hgd : Gl X "dict" := by rfl) (hgz : Gl X "zip" := by rfl)
    (hs : starEach [a, b] X.env = (false, eval a X.env) :: starEach [b] X.env := by rfl) (hpl : (backTo pos (starEach [b] X.env)).any (·.1) = false := by rfl)
    (hs1 : starEach [.Call (.Name "zip" p2) [a, b] [] pos] X.env = (false, eval (.Call (.Name "zip" p2) [a, b] [] pos) X.env) :: starEach [] X.env := by rfl) :
    DE X Wx (.Call (.Name "dict" apos) [.Call (.Name "zip" p2) [a, b] [] pos] [] cpos) (dDictZip ws) := by
  refine pe_imp (fun σ H Q ⟨G, α, Γ, O, R, xe, sl, rel, h, p, xp⟩ => ?_) (pe_dictZip nb.dict nb.zip ha g.calm hgd hgz hs hpl hs1)
  refine ⟨G, α, Γ, O, _, xe, sl, rel, h, fun xs O1 h1 vs G1 α1 H1 e1 p1 rel1 r1 => ?_, xp⟩
  dsimp only at h1
  split at h1
  · next x y =>
    split at h1
    · next us ws' eu ew =>
      split at h1
      · next qs eq =>
        obtain ⟨hl, h1⟩ := h1
        obtain ⟨v, u, rfl, rv, ru⟩ := rv2 r1
        obtain ⟨d1, vs1, rfl, hs1, ra1⟩ := asL_ok rel1 rv eu
        obtain ⟨d2, vs2, rfl, hs2, ra2⟩ := asL_ok rel1 ru ew
        have ek := keysW_ok ra1 eq
        subst ek
        refine ⟨d1, d2, qs, vs2, rfl, SqL.of hs1, SqL.of hs2, by rw [hl, ra2.len], fun q hq => ?_⟩
        have rel2 := rel1.cell (o := .dK (mergeK [] (qs.zip vs2))) (c := .dic (mergeW [] (qs.zip ws'))) hq (fun b z => by cases z)
          ⟨rel1.ex.free hq, _, upd_same, RK.mono (Ex.refl _) Pre.push (RK.merge (zip_RK ra2) .nil)⟩
        exact p _ _ h1 _ _ _ _ e1 (p1.trans Pre.push) rel2 ⟨q, pre_len rel1.len, rfl⟩
      · exact h1.elim
    · exact h1.elim
  · exact h1.elim
/-! #### sorted(..), a list that will change -/
/-! #### a, b = e1, e2, by way of a tuple -/
theorem ds_parT (g : Good X Wx k) {ws : DA} {i j : Nat} {x y : Str} {px py pt : Pos} {kt k2 pt2} (hi : X.N[i]? = some x) (hj : X.N[j]? = some y) (hij : i ≠ j)
    (ha : DAs X Wx [a, b] ws)
    (hw : swappedStores [.Tuple [.Name x px, .Name y py] kt pt] (.Tuple [a, b] k2 pt2) X.env = pure none := by rfl)
    (hs : swapsWithSole [.Tuple [.Name x px, .Name y py] kt pt] (.Tuple [a, b] k2 pt2) pos.line X.env = pure false := by rfl)
    (h1 : (assignEach [.Tuple [.Name x px, .Name y py] kt pt] X.env).map (·.2) = [assign (.Tuple [.Name x px, .Name y py] kt pt) X.env] := by rfl)
    (hn : (assignEach [.Name x px, .Name y py] X.env).length = 2 := by rfl) (hst : (assignEach [.Name x px, .Name y py] X.env).findIdx? (·.1) = none := by rfl)
    (hp : PGs X [.Name x px, .Name y py] (gCons (gName i) (gCons (gName j) gNil))) :
    DS X Wx (.Assign [.Tuple [.Name x px, .Name y py] kt pt] (.Tuple [a, b] k2 pt2) pos) (dPar i j ws) := by
  refine ps_imp (fun D σ H ⟨G, α, Γ, O, DD, xe, sl, rel, h, p, xp⟩ => ?_) (ps_asg (pe_tup ha) (pg_tup g.calm hp hn hst) hs hw h1)
  refine ⟨G, α, Γ, O, _, xe, sl, rel, h, fun y O1 h1 vs G1 α1 H1 e1 p1 rel1 r1 => ?_, xp⟩
  dsimp only at h1
  split at h1
  · next v w =>
    obtain ⟨u1, u2, rfl, ra, rb⟩ := rv2 r1
    refine ⟨by show (2 : Nat) ≤ sizeLine; decide, fun q hq => ?_⟩
    have rel2 := rel1.lay (o := .tup [u1, u2]) hq
    have ex2 : Ex G1 (upd G1 q (.tup [u1, u2])) := Ex.new (rel1.ex.free hq)
    refine ⟨q, [u1, u2], rfl, SqT.of upd_same, rfl, u1, [u2], rfl, u2, [], rfl, rfl, ?_⟩
    exact p.nx _ _ h1 _ _ _ _ (e1.trans ex2) p1 rel2 ((((sl.mono e1 p1).mono ex2 (Pre.refl _)).set (ra.mono ex2 (Pre.refl _)) i).set (rb.mono ex2 (Pre.refl _)) j)
  · exact h1.elim
end
end Dl
/-! ### a + b of lists that will change, max of whole numbers -/
/-! ### sorted(set(xs)), xs a list of texts -/
namespace Dl
open PySem PySem.Spec PyProof.Rows L2
def txt : Value → Str
  | .str z _ => z
  | _ => Str.empty
abbrev KS (P : Program) (w : World) := PySem.strKind P w
/-- a table that can be walked -/
def Tbl (w : World) (t : SetTable) : Prop := Ris t.place.toList ∧ (w.params.followText "set-order" = true ∨ t.led = true)
/-- a set of these texts -/
def TxR (P : Program) (w : World) (h : Heap) (a : Addr) (ys : List Str) : Prop :=
  ∃ o es ep t, h.get? a = some o ∧ o.ExactSet ∧ o.data = .set es ep t ∧ ElemsOf (KS P w) es.toList ∧ (es.toList.map fun e => txt e.2).Perm ys ∧ es.size < scanBound ∧ t.fits es.size = true ∧ Tbl w t
end Dl
/-! ### sorted(set(xs)): the sorting, the reading -/
namespace Dl
open PySem PySem.Spec PyProof.Rows L2
section
variable {P : Program} {w : World} {A : Around} {E : Value → Shared → Prop} {s : Shared} {a : Addr}
theorem TxR.at {h h' : Heap} {ys : List Str} (T : TxR P w h a ys) (k : ∀ b o, h.get? b = some o → h'.get? b = some o) : TxR P w h' a ys := by
  obtain ⟨o, es, ep, t, at0, more⟩ := T
  exact ⟨o, es, ep, t, k _ _ at0, more⟩
end
end Dl
/-! ### for a in text -/
namespace Dl
open PySem PySem.Spec PyProof.Rows L2
/-! ### len of a dict -/
theorem call_lenRd {X : Cx} : CallR X (.builtin "len") (fun xs H Q => ∃ a kvs, xs = [V.ref a] ∧ Rd H a (.dK kvs) ∧ Q (.int kvs.length) H) := by
  intro pins s σ H xs us Q I r h
  obtain ⟨a, kvs, rfl, ha, q⟩ := h
  obtain rfl := Vals.ref1 r
  exact d_len I ha fun t z J => ⟨.int kvs.length, H, J, ⟨t, rfl⟩, q⟩
def dLenD : DC := fun xs O R => match xs with
  | [x] => (match asDk x O with
    | some kvs => R (.d (.int (kvs.length : Nat))) O
    | none => False)
  | _ => False
theorem s_lenD {K : Fg} {mg : Str → Option Value} : CallS K mg dLenD (fun xs H Q => ∃ a kvs, xs = [V.ref a] ∧ Rd H a (.dK kvs) ∧ Q (.int kvs.length) H) := by
  intro G α O H xs vs R Q rel r h p
  unfold dLenD at h
  split at h
  · obtain ⟨v, rfl, rv⟩ := rv1 r
    split at h
    · next kvs e =>
      obtain ⟨a, es, rfl, hr, rk⟩ := asDk_ok rel rv e
      refine ⟨a, es, rfl, hr, ?_⟩
      have l := congrArg List.length rk.keys
      simp only [List.length_map] at l
      rw [l]
      exact p.here h rel (.int _)
    · exact h.elim
  · exact h.elim
end Dl
/-! ### len(set(xs)), xs a tuple of texts -/
/-! ### dicts whose keys are tuples -/
/-! ### sorted(xs), xs tuples that differ in the two texts at their heads -/
namespace Dl
open PySem PySem.Spec PyProof.Rows L2
open PySem.W (SortsAt EachIs sortLe sortVals_each sorted_vals sorting_copy_old sortingHeap copyHeap kat_kind kat_lt kat_cons kat_yes kat_no KatLex katLex_alike each_katTups looks_reads alike dataLt sortVals)
/-- the two texts at the head of a tuple -/
def hd2 : PyData → Option (Str × Str)
  | .tuple (.str a :: .str b :: _) => some (a, b)
  | _ => none
abbrev O2 : KeyOrd := PyProof.Rows.listOrd (PyProof.Rows.strKind).toKeyOrd
end Dl
/-! ### sorted(xs), tuples that differ in the two texts at their heads: the reading -/
namespace Dl
open PySem PySem.Spec PyProof.Rows L2
def k2 (d : PyData) : Str × Str := (hd2 d).getD ("", "")
/-! #### what such a sort gives -/
end Dl
/-! ### a list so many times -/
/-! ### defs with defaults -/
namespace Dl
open PySem PySem.Spec PyProof.Rows L2
structure FunT (K : Fg) (x qual : Str) (st : Stmt) (T : Addr) (its : Array Value) (f : Addr) (fd : FuncData) : Prop where
  ex : ∃ (oc : Value) (od : Option Addr) (kV doc pm : Value) (an : Option Addr) (cdv ct : Value) (osl : Array (Option Value)),
    fd = PySem.W.fnOf x qual (defArgs st) (defBody st) (defScope st) (.ref T) kV doc pm an cdv ct ∧ K.lookup f = some ⟨oc, od, .func fd, osl⟩ ∧ PySem.W.codeIn K cdv qual = true
  tx : ∃ (o : Obj) (n : Nat), K.lookup T = some o ∧ o.data = .seq its n
section
variable {P : Program} {w : World} {K : Fg} {mg : Str → Option Value} {base : Heap} {x qual : Str} {st : Stmt} {T : Addr} {its : Array Value} {f : Addr} {fd : FuncData}
/-- a call that gives the first ones; the last ones are the defaults -/
theorem FunT.binds {ps : List Str} (F : FunT K x qual st T its f fd) (ds : List Value)
    (h : ∀ (kV doc pm : Value) (an : Option Addr) (cdv ct : Value) (us : List Value), us.length + ds.length = ps.length →
      ∃ k, bindArgs (PySem.W.fnOf x qual (defArgs st) (defBody st) (defScope st) (.ref T) kV doc pm an cdv ct) ⟨us, []⟩ = seqItems? (.ref T) >>= k ∧ k (some its) = pure (ps.zip (us ++ ds))) : Binds K fd ps ds := by
  obtain ⟨oc, od, kV, doc, pm, an, cdv, ct, osl, rfl, lk, hcd⟩ := F.ex
  obtain ⟨o, n, lT, oT⟩ := F.tx
  intro s us X hl
  rw [List.length_append] at hl
  obtain ⟨k, e1, e2⟩ := h kV doc pm an cdv ct us hl
  refine BindsTo.of_looks fun M => ?_
  rw [e1]
  exact looks_items X lT oT (.of_pure e2)
end
end Dl
/-! ### sorted(d.items()), d from texts to texts: at the machine -/
/-! ### sorted(d.items()), d from texts to texts: the reading -/
namespace Dl
open PySem PySem.Spec PyProof.Rows L2
section
variable {K : Fg} {mg : Str → Option Value} {G : Hp} {α : Al} {O : Oh} {H H' : Hp}
theorem COk.push {a l : Addr} {vs : List V} {c : Cell} (hl : H l = some (.lst vs)) (w : COk K mg G α H a c) : COk K mg G (α.push l) H a c := by
  cases c with
  | lst ys => obtain ⟨h0, vs, e, h⟩ := w; exact ⟨h0, vs, e, h.mono (Ex.refl _) Pre.push⟩
  | dic ys => obtain ⟨h0, vs, e, h⟩ := w; exact ⟨h0, vs, e, h.mono (Ex.refl _) Pre.push⟩
  | dct ys => obtain ⟨h0, vs, e, h⟩ := w; exact ⟨h0, vs, e, h.mono (Ex.refl _) Pre.push⟩
  | ldic od es ys => obtain ⟨h0, e, h⟩ := w; exact ⟨h0, e, h.mono (Ex.refl _) Pre.push⟩
  | ldct od es ys => obtain ⟨h0, e, h⟩ := w; exact ⟨h0, e, h.mono (Ex.refl _) Pre.push⟩
  | ins C ys =>
    obtain ⟨h0, Ca, dx, es, q1, q2, q3, q4, q5, h⟩ := w
    refine ⟨h0, Ca, dx, es, q1, q2, q3, q4, fun z => ?_, h.mono (Ex.refl _) Pre.push⟩
    rcases List.mem_append.mp z with z | z
    · exact q5 z
    · have : dx = l := by simpa using z
      rw [this, hl] at q3; cases q3
  | gone => trivial
end
end Dl
/-! ### d.setdefault, int(bool), calls that leave defaults out -/
/-! ### xs[i], ys[j] = e1, e2 -/
/-! ### an empty dict in a tuple of texts: no -/
/-! ### an except suite `as n` that raises: the name goes, the exception goes on (begun) -/
/-! ### try .. except x as n: (a suite that may raise) .. else -/
/-! ### values: try .. except C as n: raise C(..) from None, else .. -/
/-! ### membership where an empty dict may stand on either side -/
/-! ### a >= b, of texts -/
/-! ### a comprehension along zip of two lists while an exception is handled: at the machine -/
namespace Dl
open PySem PySem.Spec PyProof.Rows L2 HotX L2H
open LM (HotL)
/-- the exception that is handled: its context is None, or one whose context is None -/
def HotB (A : Around) (x1 : Addr) (h : Heap) : Prop := A.handled = some (.ref x1) ∧ ∃ (o : Obj) (vs : Array Value), h.get? x1 = some o ∧ o.data = .fields vs ∧
  (vs[2]? = some .none ∨ ∃ (y : Addr) (oy : Obj) (vy : Array Value), vs[2]? = some (.ref y) ∧ h.get? y = some oy ∧ oy.data = .fields vy ∧ vy[2]? = some .none)
section
variable {prog : Program} {w : World} {A : Around} {E : Value → Shared → Prop} {s : Shared}
/-- what is kept of the heap keeps it hot -/
theorem HotB.keep {x1 : Addr} {h h' : Heap} (hot : HotB A x1 h) (k : ∀ b o vs, h.get? b = some o → o.data = .fields vs → (b = x1 ∨ ∃ o1 v1, h.get? x1 = some o1 ∧ o1.data = .fields v1 ∧ v1[2]? = some (.ref b)) → h'.get? b = some o) : HotB A x1 h' := by
  obtain ⟨hh, o, vs, e, d, c⟩ := hot
  refine ⟨hh, o, vs, k _ _ _ e d (.inl rfl), d, c.imp id fun ⟨y, oy, vy, c1, hy, dy, cy⟩ => ⟨y, oy, vy, c1, k _ _ _ hy dy (.inr ⟨o, vs, e, d, c1⟩), dy, cy⟩⟩
end
/-! #### iterators there -/
/-! #### the comprehension -/
end Dl
/-! ### values: several clauses, isinstance of what is handled, defs called within a suite -/
namespace Dl
open PySem PySem.Spec PyProof.Rows L2
open LM (HotL)
/-! #### a def called while an exception is handled: at the machine -/
structure FnP (P : Program) (w : World) (K : Fg) (mg : Str → Option Value) (base : Heap) (CX : CXT) (k : Nat) (f : Addr) (fd : FuncData) (ps : List Str) (sp : Sp) (l : List (Addr × Obj)) : Prop where
  len : ∀ vs H Q E, sp vs H Q E → vs.length = ps.length
  run : ∀ (A : Around) (outer : List Env) (s : Shared) (H : Hp) (args : Args) (us : List Value) (vs : List V) (Q : VK) (E : XK), L2H.RoomH k A → HotL A l → (∀ p ∈ l, L2H.PinOk outer H s p) → Env0 P w K mg base A outer s H → BindsTo s fd args (ps.zip us) → Vals vs us → sp vs H Q E →
    codeAny (model P w) A (.call (.ref f) args) (CR CX outer P w H s Q E) s
/-- a place where an exception is handled -/
structure GoodH (X : Cx) (k : Nat) (l : List (Addr × Obj)) : Prop where
  hot : HotL X.A l
  sub : ∀ q ∈ l, q ∈ X.pn
  rm : L2H.RoomH k X.A
  nd : X.N.Nodup
/-- .. of the class nm, at a -/
structure ExH (X : Cx) (k : Nat) (nm : Str) (a : Addr) (d : Option Addr) (l : List (Addr × Obj)) : Prop where
  g : GoodH X k l
  ex : ∃ oe C r, l = (a, oe) :: r ∧ X.mg nm = some (.ref C) ∧ Zc (.ref C) d oe ∧ ∃ vs, oe.data = .fields vs
theorem GoodH.mono {X : Cx} {j k : Nat} {l : List (Addr × Obj)} (g : GoodH X k l) (h : j ≤ k) : GoodH X j l := ⟨g.hot, g.sub, g.rm.mono h, g.nd⟩
theorem FnP.mono {P : Program} {w : World} {K : Fg} {mg : Str → Option Value} {base : Heap} {CX : CXT} {j k : Nat} {f : Addr} {fd : FuncData} {ps : List Str} {sp : Sp} {l : List (Addr × Obj)} (F : FnP P w K mg base CX j f fd ps sp l) (h : j ≤ k) : FnP P w K mg base CX k f fd ps sp l :=
  ⟨F.len, fun A outer s H args us vs Q E hr => F.run A outer s H args us vs Q E (hr.mono h)⟩
/-! #### isinstance of what is handled -/
/-- of each of these classes: what isinstance asks -/
structure XIs (K : Fg) (mg : Str → Option Value) (cs : List Str) (D : Str) : Prop where
  ex : ∃ DA, mg D = some (.ref DA) ∧ ∀ nm ∈ cs, ∀ C, mg nm = some (.ref C) → PySem.W.kitOne K (.ref C) (.ref DA) = some (nm == D)
theorem sub_self {K : Fg} {C : Addr} {b : Bool} (h : PySem.W.selfFirst K C = true) (e : PySem.W.subIn K (.ref C) (.ref C) = some b) : b = true := by
  unfold PySem.W.selfFirst at h
  have e : PySem.W.mroIn K C (.ref C) = some b := e
  unfold PySem.W.mroIn at e
  cases hc : PySem.W.clsIn K C with
  | none => rw [hc] at h; cases h
  | some cd =>
    rw [hc] at h e
    have h : (cd.mro.head? == some (Value.ref C)) = true := h
    have e : (if cd.mro.isEmpty then none else some (cd.mro.contains (.ref C))) = some b := e
    have h := beq_iff_eq.mp h
    cases hm : cd.mro with
    | nil => rw [hm] at h; cases h
    | cons v r =>
      rw [hm] at h e
      cases h
      simp at e
      exact e
end Dl
/-! ### values: what may stand in a suite, in a def that is called there -/
namespace Dl
open PySem PySem.Spec PyProof.Rows L2
open LM (HotL)
section
variable {X Y : Cx} {Wx : WX} {k : Nat} {a b c e o : Expr} {wa wb wc we wo : DEx} {pos p2 p apos : Pos} {ws : DA} {es : List Expr} {nm : Str} {q : Addr} {d : Option Addr} {l : List (Addr × Obj)}
theorem ExH.mem (x : ExH Y k nm q d l) : ∃ oe C, (q, oe) ∈ Y.pn ∧ Y.mg nm = some (.ref C) ∧ Zc (.ref C) d oe ∧ ∃ vs, oe.data = .fields vs := by
  obtain ⟨oe, C, r, e, h1, h2, h3⟩ := x.ex
  exact ⟨oe, C, x.g.sub _ (by rw [e]; exact List.mem_cons_self), h1, h2, h3⟩
/-! #### isinstance -/
/-- the classes of a tuple -/
inductive ClsT (Y : Cx) (cs : List Str) : List Expr → List Str → List Addr → Prop
  | nil : ClsT Y cs [] [] []
  | cons {D : Str} {pD : Pos} {DA : Addr} {es : List Expr} {Ds : List Str} {As : List Addr} (T : XIs Y.K Y.mg cs D) (hD : Y.mg D = some (.ref DA)) (hg : Gl Y D) (hdb : (D == ("__debug__" : Str)) = false) (hs : starEach (.Name D pD :: es) Y.env = (false, eval (.Name D pD) Y.env) :: starEach es Y.env) (r : ClsT Y cs es Ds As) :
      ClsT Y cs (.Name D pD :: es) (D :: Ds) (DA :: As)
theorem ClsT.any {cs : List Str} {C : Addr} (hn : nm ∈ cs) (hC : Y.mg nm = some (.ref C)) : ∀ {es : List Expr} {Ds : List Str} {As : List Addr}, ClsT Y cs es Ds As → PySem.W.kitAny Y.K (.ref C) (As.map Value.ref) = some (Ds.contains nm)
  | _, _, _, .nil => rfl
  | _, _, _, .cons (D := D) (Ds := Ds) T hD hg hdb hs r => by
    obtain ⟨DA', hD', hk⟩ := T.ex
    rw [hD] at hD'
    cases hD'
    have h1 := hk nm hn C hC
    have h2 := r.any hn hC
    rw [List.map_cons]
    unfold PySem.W.kitAny
    rw [h1]
    rw [List.contains_cons]
    cases z : (nm == D) with
    | true => rfl
    | false => exact h2
/-! #### e.f where e is of the class C0 -/
/-! #### a def that is called there -/
end
end Dl
/-! ### values: a comprehension along zip while an exception is handled; tries of several clauses -/
/-! ### x not in a list of texts, x an empty dict -/
namespace Dl
open PySem PySem.Spec PyProof.Rows L2
/-! ### instances: fields, methods, making -/
theorem RK.get {K : Fg} {G : Hp} {α : Al} {f : Str} {w : W} : ∀ {es : List (Str × V)} {fs : List (Str × W)}, RK K G α es fs → fs.lookup f = some w → ∃ v, es.lookup f = some v ∧ Rv K G α v w
  | _, _, .nil, h => by cases h
  | (a, v) :: es, (b, w') :: fs, .cons r t, h => by
    obtain ⟨e, rv⟩ := r
    have e : a = b := e
    subst e
    rw [List.lookup_cons] at h ⊢
    cases z : f == a with
    | true =>
      rw [z] at h
      cases h
      exact ⟨v, rfl, rv⟩
    | false =>
      rw [z] at h
      exact RK.get t h
/-! #### a def all cells of which stay -/
end Dl
namespace Dl
open PySem PySem.Spec PyProof.Rows L2
/-! ### a list of tuples that are keys, made along a walk: it may change -/
abbrev KP (G : Hp) (v : V) (ks : List Key) : Prop := ks.all keyOk = true ∧ ∃ a, v = .ref a ∧ G a = some (.tup (ks.map kV))
abbrev KPs (G : Hp) (vs : List V) (kss : List (List Key)) : Prop := Paired (fun v ks => KP G v ks) vs kss
theorem KPs.mono {G G' : Hp} (e : Ex G G') : ∀ {vs : List V} {kss : List (List Key)}, KPs G vs kss → KPs G' vs kss
  | _, _, .nil => .nil
  | _, _, .cons ⟨h, a, e1, e2⟩ t => .cons ⟨h, a, e1, e a _ e2⟩ (KPs.mono e t)
theorem KPs.snoc {G : Hp} {v : V} {ks : List Key} (h : KP G v ks) : ∀ {vs : List V} {kss : List (List Key)}, KPs G vs kss → KPs G (vs ++ [v]) (kss ++ [ks])
  | _, _, .nil => .cons h .nil
  | _, _, .cons r t => .cons r (KPs.snoc h t)
theorem KPs.length {G : Hp} {vs : List V} {kss : List (List Key)} (h : KPs G vs kss) : vs.length = kss.length := Paired.length h
variable {X : Cx} {Wx : WX} {k : Nat} {pos : Pos}
end Dl
/-! ### len of a dict with tuples as keys -/
/-! ### d != {} -/
/-! ### dict(zip(d, xs)) over a dict d -/
/-! ### a def that is called with no guards about: the law itself (for repr) -/
namespace Dl
open PySem PySem.Spec PyProof.Rows L2
structure FnOkG (P : Program) (w : World) (K : Fg) (mg : Str → Option Value) (base : Heap) (CX : CXT) (k : Nat) (f : Addr) (fd : FuncData) (ps : List Str) (sp : Sp) : Prop where
  len : ∀ (vs : List V) (H : Hp) (Q : VK) (E : XK), sp vs H Q E → vs.length = ps.length
  run : ∀ (A : Around) (outer : List Env) (s : Shared) (H : Hp) (args : Args) (us : List Value) (vs : List V) (Q : VK) (E : XK), A.guards = some [] → Room k A → Env0 P w K mg base A outer s H → BindsTo s fd args (ps.zip us) → Vals vs us → sp vs H Q E → codeAny (model P w) A (Code.call (Value.ref f) args) (CR CX outer P w H s Q E) s
theorem fn_ofG {CX : CXT} {P : Program} {w : World} {K : Fg} {mg : Str → Option Value} {base : Heap} {k : Nat} {f : Addr} {name qual : Str} {params : Arguments} {body : List Stmt} {scope : Scope} {dV kV doc pm cdv ct oc : Value} {an od : Option Addr} {osl : Array (Option Value)} {N ps : List Str} {sp : Sp}
    (lk : List.lookup f K = some { cls := oc, dict := od, data := Data.func (W.fnOf name qual params body scope dV kV doc pm an cdv ct), slots := osl }) (hcd : W.codeIn K cdv qual = true) (S : FnScope N ps scope) (len : ∀ (vs : List V) (H : Hp) (Q : VK) (E : XK), sp vs H Q E → vs.length = ps.length)
    (hbody : ∀ (A : Around) (outer : List Env) (s : Shared) (H : Hp) (vs : List V) (Q : VK) (E : XK), A.guards = some [] → Room k (A.deeper (envOfC qual scope s.heap.objs.size f cdv)) → sp vs H Q E →
      ∃ t, PSs (cxOf CX P w K mg base N qual scope f cdv A outer s H E) body t ∧ t { nx := fun _ H' => Q V.non H', rt := Q } (L2.start N vs) H) :
    FnOkG P w K mg base CX (k + 1) f (W.fnOf name qual params body scope dV kV doc pm an cdv ct) ps sp where
  len := len
  run A outer s H args us vs Q E hgd hr e0 hb r hsp := by
    have hl := len vs H Q E hsp
    have KX := W.Frag.In.keeps e0.mod.kin fun b o e => (e0.bs b o e).left
    have lim := Heap.NoLimit.keeps e0.mod.nolimit fun b o e => (e0.bs b o e).left
    have hkind : ∀ x ∈ ps.zip us, List.lookup x.1 scope.names = some NameKind.local ∨ List.lookup x.1 scope.names = some NameKind.cell ∧ (List.lookup x.1 (cellsFrom (s.heap.objs.size + 1) scope.names [])).isSome = true := by
      rintro ⟨n, v⟩ hy
      rcases S.par n (List.of_mem_zip hy).left with q | q
      · exact .inl q
      · exact .inr ⟨q, W.cellsFrom_some scope.names (s.heap.objs.size + 1) [] (.inl q)⟩
    refine codeAny_call_function (Room.depth hr) (KX f _ lk) rfl S.co S.gen rfl (W.codeRec_of KX hcd) (hb _ _ _ _ ?_)
    refine wpAny_newFunctionEnv_cells S.kind hkind fun env he s1 x => ?_
    subst he
    refine ⟨Heap.NoLimit.keeps lim x.toInCall.keep, codeAny_func ?_⟩
    obtain ⟨t, ht, hq⟩ := hbody A outer s H vs Q E hgd (Room.deeper hr (envOfC qual scope s.heap.objs.size f cdv)) hsp
    have I := inv_start (CX := CX) (E := E) S hr.hd e0 hl r x
    refine wpAny_mono (ht.run [] s1 (L2.start N vs) H { nx := fun _ H' => Q V.non H', rt := Q } I hq) (fun fl s' hs => ?_) fun e s' hs => hs
    cases fl with
    | next =>
      obtain ⟨σ', H', J, q⟩ := hs
      exact ⟨V.non, H', J.os, J.bare, J.base, J.hok, rfl, q⟩
    | ret u =>
      obtain ⟨v, σ', H', J, rv, q⟩ := hs
      exact ⟨v, H', J.os, J.bare, J.base, J.hok, rv, q⟩
    | brk =>
      obtain ⟨_, _, _, q⟩ := hs
      exact q.elim
    | cont =>
      obtain ⟨_, _, _, q⟩ := hs
      exact q.elim
theorem law_callG {P : Program} {w : World} {K : Fg} {mg mb : Str → Option Value} {CX : CXT} {k : Nat} {fa a : Addr} {fd : FuncData} {x : Str} {sp : Sp} {s₁ : Shared} {vs : List Value} {ns : List Int} (KX : K.In s₁.heap) (hns : s₁.heap.Ns mainGlobals mg) (hb : s₁.heap.Ns builtinsNs mb) (hbb : ∀ x : Str, x ≠ "__name__" → mb x = bootBuiltins x)
    (hlim : s₁.heap.NoLimit) (hg : s₁.gens = #[]) (ha : s₁.heap.get? a = some { cls := Value.type "list", data := Data.seq vs.toArray }) (hi : IntsAre vs ns) (hl : ns.length ≤ sizeLine) (hr : Room k callerA) (F : ∀ base : Heap, K.In base → base.Ns mainGlobals mg → FnOkG P w K mg base CX k fa fd [x] sp)
    (hbind : ∀ (s : Shared) (u : Value), BindsTo s fd { pos := [u] } [(x, u)]) (hsp : ∀ H : Hp, Only H → SqL K H a (ns.map V.int) → sp [V.ref a] H (fun v _ => v = V.bl true) fun _ _ _ => False) (hCX : ∀ (H : Hp) (e : Value) (s' : Shared), CX [] H s₁ (fun _ _ _ => False) e s' → False) :
    codeAny (model P w) callerA (Code.call (Value.ref fa) { pos := [Value.ref a] }) (fun r s' => r = Except.ok (Flow.ret (Value.bool true)) ∧ OldK s₁.heap s'.heap ∧ s'.os = s₁.os ∧ AllBare s'.gens) s₁ := by
  have rv := vals_ints hi
  have lenV := hi.length
  have core : ∀ H : Hp, Only H → SqL K H a (ns.map V.int) → HOk P w H s₁.heap → (∀ b, H b ≠ none → b = a) → (H a ≠ none → List.lookup a K = none) → codeAny (model P w) callerA (Code.call (Value.ref fa) { pos := [Value.ref a] }) (fun r s' => r = Except.ok (Flow.ret (Value.bool true)) ∧ OldK s₁.heap s'.heap ∧ s'.os = s₁.os ∧ AllBare s'.gens) s₁ := by
    intro H hO hS hok hA hK
    have base_of : ∀ {b : Addr} {o : Obj}, s₁.heap.get? b = some o → H b = none → (hidT s₁.heap H).get? b = some o := fun e n => hidT_get e n
    have noA : ∀ {b : Addr} {o : Obj} {es : Array DictEntry} {ep : Nat}, s₁.heap.get? b = some o → o.data = Data.dict es ep → H b = none := by
      intro b o es ep e d
      cases q : H b with
      | none => rfl
      | some u =>
        have e' := hA b (by rw [q]; simp)
        subst e'
        rw [ha] at e
        cases e
        cases d
    have nsK : ∀ {b : Addr} {m : Str → Option Value}, s₁.heap.Ns b m → (hidT s₁.heap H).Ns b m := fun ⟨o, es, ep, e, d, r⟩ => ⟨o, es, ep, base_of e (noA e d), d, r⟩
    have hKb : ∀ (b : Addr) (o : Obj), List.lookup b K = some o → (hidT s₁.heap H).get? b = some o := by
      intro b o e
      refine base_of (KX b o e) ?_
      cases q : H b with
      | none => rfl
      | some u =>
        have e' := hA b (by rw [q]; simp)
        subst e'
        have := hK (by rw [q]; simp)
        rw [this] at e
        cases e
    have hM : L2.Mod K mg (hidT s₁.heap H) := { kin := hKb, glob := nsK hns, blt := ⟨mb, nsK hb, hbb⟩, nolimit := by obtain ⟨mc, h1, h2⟩ := hlim; exact ⟨mc, nsK h1, h2⟩ }
    have e0 : Env0 P w K mg (hidT s₁.heap H) callerA [] s₁ H := { frames := rfl, mod := hM, bs := fun b o e => of_hidT e, bsz := Nat.le_of_eq (hidT_size s₁.heap H), funs := trivial, frf := fun b hb => (by cases hb), hok := hok, bare := AllBare.of_eq hg }
    refine codeAny_mono ((F (hidT s₁.heap H) hKb (nsK hns)).run callerA [] s₁ H _ [.ref a] [.ref a] (fun v _ => v = V.bl true) (fun _ _ _ => False) rfl hr e0 (hbind s₁ _) (.cons rfl .nil) (hsp H hO hS)) fun r s' h => ?_
    cases r with
    | error e => exact (hCX H e s' h).elim
    | ok fl =>
      cases fl with
      | next => exact h.elim
      | brk => exact h.elim
      | cont => exact h.elim
      | ret u =>
        obtain ⟨v, H', os, bare, un, hok', r', q⟩ := h
        subst q
        refine ⟨by rw [show u = Value.bool true from r'], OldK.of_keep fun b o e => ?_, os, bare⟩
        cases q : H b with
        | none => exact un.keep b o e q (fun z => by cases z) (fun z => by cases z)
        | some u =>
          rcases hO b with z | ⟨ob, xs, z⟩
          · rw [q] at z; cases z
          · have e1 := (hok b _ z).1
            have e2 := (hok' b _ (un.frzs b ob _ z)).1
            rw [e] at e1
            cases e1
            exact e2
  cases hk : List.lookup a K with
  | none =>
    refine core (fun b => if b = a then some (.frz { cls := Value.type "list", data := Data.seq vs.toArray } (.lst (ns.map V.int))) else none) ?_ ?_ ?_ ?_ ?_
    · intro b
      by_cases z : b = a
      · exact .inr ⟨_, _, if_pos z⟩
      · exact .inl (if_neg z)
    · exact .inl (.inr ⟨_, if_pos rfl⟩)
    · intro b u z
      have z : (if b = a then some (HO.frz { cls := Value.type "list", data := Data.seq vs.toArray } (.lst (ns.map V.int))) else none) = some u := z
      by_cases hb : b = a
      · rw [if_pos hb] at z
        cases z
        subst hb
        exact ⟨ha, by rw [List.length_map]; exact hl, vs, 0, rv, ha⟩
      · rw [if_neg hb] at z
        cases z
    · intro b z
      by_cases hb : b = a
      · exact hb
      · exact absurd (if_neg hb) z
    · exact fun _ => hk
  | some o =>
    have e := KX a o hk
    rw [ha] at e
    cases e
    refine core (fun _ => none) (fun _ => .inl rfl) (.inr ⟨_, vs.toArray, 0, hk, rfl, rfl, rfl, by rw [List.size_toArray, lenV]; exact hl, rv⟩) (fun b u z => by cases z) (fun b z => absurd rfl z) fun z => absurd rfl z
theorem walk_ofG {l : W.OpenLaw} {n k : Nat} {q : Program} {loose : List Str} {XP : (Str → Option Value) → Heap → Prop} {YP : World → Heap → Prop} {d : DefRec} {K : Params → Fg} {CX : World → CXT} {sp : World → Sp} {x : Str} (hn : l.most = some n) (hn2 : n ≤ sizeLine) (hdf : d.params.defaults = []) (hr : Room k callerA)
    (hY : ∀ (w : World) (h : Heap), YP w h → (K w.params).In h)
    (F : ∀ (w : World) (mg : Str → Option Value) (fa : Addr) (h : Heap), (K w.params).In h → h.Ns mainGlobals mg → mg d.name = some (Value.ref fa) → ∃ fd, (∀ (s : Shared) (u : Value), BindsTo s fd { pos := [u] } [(x, u)]) ∧ ∀ base : Heap, (K w.params).In base → base.Ns mainGlobals mg → FnOkG l.prog w (K w.params) mg base (CX w) k fa fd [x] (sp w))
    (hsp : ∀ (w : World) (H : Hp) (a : Addr) (ns : List Int), ns.length ≤ n → Only H → SqL (K w.params) H a (ns.map V.int) → sp w [V.ref a] H (fun v _ => v = V.bl true) fun _ _ _ => False) (hCX : ∀ (w : World) (H : Hp) (s : Shared) (e : Value) (s' : Shared), CX w [] H s (fun _ _ _ => False) e s' → False) :
    W.WalkO q loose XP YP l.row.toRowW d [] fun f vs => call f vs :=
  Att.attach_call hn hdf fun w s₀ s₁ mg mb fa o pm cd doc a vs ns G Y ho hd hcd hmg hobj hints hlen hg => by
    have KX := hY w s₁.heap Y
    obtain ⟨fd, hb, hF⟩ := F w mg fa s₁.heap KX G.T.g hmg
    exact law_callG KX G.T.g G.T.b G.T.builtins G.T.nolimit hg hobj hints (Nat.le_trans hlen hn2) hr hF hb (fun H hO hS => hsp w H a ns hlen hO hS) fun H e s' => hCX w H s₁ e s'
end Dl
/-! ### repr(x), x None, a tuple or a list of data, where no guards are about -/
namespace Dl
open PySem PySem.Spec PyProof.Rows L2
theorem ok_defZG {P : Program} {w : World} {K : Fg} {mg : Str → Option Value} {base : Heap} {x qual : Str} {st : Stmt} {f : Addr} {fd : FuncData} {N ps : List Str} {k : Nat} {b : DSt} (F : Fun K x qual st f fd) (S : FnScope N ps (defScope st))
    (hb : ∀ (cdv : Value) (A : Around) (outer : List Env) (s : Shared) (H : Hp) (E : XK), Good (cxOf (LM.CX true P w) P w K mg base N qual (defScope st) f cdv A outer s H E) (fun cls d _ H => E cls d H) k → LM.Takes true (cxOf (LM.CX true P w) P w K mg base N qual (defScope st) f cdv A outer s H E) (fun cls d _ H => E cls d H) →
      (cxOf (LM.CX true P w) P w K mg base N qual (defScope st) f cdv A outer s H E).A.guards = some [] → DSs (cxOf (LM.CX true P w) P w K mg base N qual (defScope st) f cdv A outer s H E) (fun cls d _ H => E cls d H) (defBody st) b) :
    FnOkG P w K mg base (LM.CX true P w) (k + 1) f fd ps (liftF K mg (dDef N.length ps.length b)) := by
  obtain ⟨oc, od, kV, doc, pm, an, cdv, ct, osl, rfl, lk, hcd⟩ := F.ex
  refine fn_ofG lk hcd S (fun vs H Q E h => ?_) fun A outer s H vs Q E hgd hr h => ?_
  · obtain ⟨G, α, ws, O, R, xe, r, rel, ⟨hl, _⟩, _⟩ := h
    rw [r.len, hl]
  · exact ⟨_, hb cdv A outer s H E ⟨LM.tn_of (LM.takes_of rfl rfl rfl rfl), passes_of rfl, hr, rfl, S.nd⟩ (LM.takes_of rfl rfl rfl rfl) hgd, def_in h⟩
theorem FnOkG.imp {P : Program} {w : World} {K : Fg} {mg : Str → Option Value} {base : Heap} {CX : CXT} {k : Nat} {f : Addr} {fd : FuncData} {ps : List Str} {sp sp' : Sp} (h : FnOkG P w K mg base CX k f fd ps sp) (g : ∀ (vs : List V) (H : Hp) (Q : VK) (E : XK), sp' vs H Q E → sp vs H Q E) : FnOkG P w K mg base CX k f fd ps sp' :=
  ⟨fun vs H Q E q => h.len vs H Q E (g vs H Q E q), fun A outer s H args us vs Q E hg hr e hb r q => h.run A outer s H args us vs Q E hg hr e hb r (g vs H Q E q)⟩
def seqD1 : PyData → Bool
  | .none => true
  | .list _ => true
  | .tuple _ => true
  | _ => false
def rRepr (K : Fg) : List V → Hp → VK → Prop := fun xs H Q => ∃ (v : V) (d : PyData), xs = [v] ∧ Dp K H v d ∧ seqD1 d = true ∧ d.showable = true ∧ d.hasDict = false ∧ d.depth ≤ 64 ∧ d.shown.length ≤ sizeLine ∧ Q (.str d.shown) H
theorem call_reprG {X : Cx} (hg : X.A.guards = some []) (hu : X.A.units + 100 < cLine) : CallR X (.builtin "repr") (rRepr X.K) := by
  intro pins s σ H xs us Q I r h
  obtain ⟨v, d, rfl, dp, sq, hs, hd, hdep, hl, q⟩ := h
  obtain ⟨u, rfl, ru⟩ := vals1 r
  obtain ⟨as, rd⟩ := Dp.reads I d v u dp ru
  have ref : ∀ a, u = .ref a → wpAny (model X.prog X.w) X.A (call (.builtin "repr") [u]) (EP X pins σ Q) X.xe s := by
    rintro a rfl
    refine PySem.repr_of_reads' rd hs (PyData.noDict_hsm hd) hg (by omega) (fun b o e => e) (fun h' t tk hk => ?_) hl
    exact ⟨.str d.shown, H, I.kept (t' := tk) hk, ⟨t, rfl⟩, q⟩
  cases d with
  | none =>
    cases rd
    refine PySem.P.repr_of_none ?_
    exact ⟨.str "None", H, I.kept (t' := s.toks + 1) (fun _ _ e => e), ⟨_, rfl⟩, q⟩
  | list ds => cases rd; exact ref _ rfl
  | tuple ds => cases rd; exact ref _ rfl
  | _ => cases sq
def dRepr : DC := fun xs O R => match xs with
  | [.d d] => shp 40 d = true ∧ seqD1 d = true ∧ d.showable = true ∧ d.hasDict = false ∧ d.shown.length ≤ sizeLine ∧ PyData.strOk d.shown = true ∧ R (.d (.str d.shown)) O
  | _ => False
theorem s_repr {K : Fg} {mg : Str → Option Value} : CallS K mg dRepr (rRepr K) := by
  intro G α O H xs vs R Q rel rl h p
  unfold dRepr at h
  split at h
  · next d =>
    obtain ⟨sh, sq, hs, hd, hl, ok, h⟩ := h
    obtain ⟨v, rfl, rv⟩ := rv1 rl
    exact ⟨v, d, rfl, rp_dp 40 d rel.ex rv sh, sq, hs, hd, Nat.le_trans (shp_depth 40 d sh) (by decide), hl, p.here h rel (.str _ ok)⟩
  · exact h.elim
end Dl
/-! ### readings are gone through, step by step: `repeat refine Go.h ?_` -/
namespace Dl
open PySem PySem.Spec PyProof.Rows L2
/-- P comes of Q -/
class Go (P : Prop) (Q : outParam Prop) : Prop where
  h : Q → P
/-! #### lists that are written out -/
class Get {α : Type} (l : List α) (i : Nat) (x : outParam α) : Prop where
  e : l[i]? = some x
instance {α : Type} {x : α} {l : List α} : Get (x :: l) 0 x := ⟨rfl⟩
instance {α : Type} {x y : α} {l : List α} {n : Nat} [h : Get l n x] : Get (y :: l) (n + 1) x := ⟨by rw [List.getElem?_cons_succ]; exact h.e⟩
class Put {α : Type} (l : List α) (i : Nat) (x : α) (l' : outParam (List α)) : Prop where
  e : l.set i x = l'
instance {α : Type} {x y : α} {l : List α} : Put (y :: l) 0 x (x :: l) := ⟨rfl⟩
instance {α : Type} {x y : α} {l l' : List α} {n : Nat} [h : Put l n x l'] : Put (y :: l) (n + 1) x (y :: l') := ⟨by rw [List.set_cons_succ, h.e]⟩
class Snoc {α : Type} (l : List α) (x : α) (l' : outParam (List α)) : Prop where
  e : l ++ [x] = l'
instance {α : Type} {x : α} : Snoc [] x [x] := ⟨rfl⟩
instance {α : Type} {x y : α} {l l' : List α} [h : Snoc l x l'] : Snoc (y :: l) x (y :: l') := ⟨by rw [List.cons_append, h.e]⟩
class Cnt {α : Type} (l : List α) (n : outParam Nat) : Prop where
  e : l.length = n
class Sz {α : Type} (l : List α) : Prop where
  e : l.length ≤ 1000000
instance {α : Type} : Cnt ([] : List α) 0 := ⟨rfl⟩
instance {α : Type} : Sz ([] : List α) := ⟨Nat.le_of_ble_eq_true rfl⟩
instance {α : Type} {a : α} : Cnt ([a] : List α) 1 := ⟨rfl⟩
instance {α : Type} {a : α} : Sz ([a] : List α) := ⟨Nat.le_of_ble_eq_true rfl⟩
instance {α : Type} {a b : α} : Cnt ([a, b] : List α) 2 := ⟨rfl⟩
instance {α : Type} {a b : α} : Sz ([a, b] : List α) := ⟨Nat.le_of_ble_eq_true rfl⟩
instance {α : Type} {a b c : α} : Cnt ([a, b, c] : List α) 3 := ⟨rfl⟩
instance {α : Type} {a b c : α} : Sz ([a, b, c] : List α) := ⟨Nat.le_of_ble_eq_true rfl⟩
instance {α : Type} {a b c d : α} : Cnt ([a, b, c, d] : List α) 4 := ⟨rfl⟩
instance {α : Type} {a b c d : α} : Sz ([a, b, c, d] : List α) := ⟨Nat.le_of_ble_eq_true rfl⟩
instance {α : Type} {a b c d e : α} : Cnt ([a, b, c, d, e] : List α) 5 := ⟨rfl⟩
instance {α : Type} {a b c d e : α} : Sz ([a, b, c, d, e] : List α) := ⟨Nat.le_of_ble_eq_true rfl⟩
instance {α : Type} {a b c d e f : α} : Cnt ([a, b, c, d, e, f] : List α) 6 := ⟨rfl⟩
instance {α : Type} {a b c d e f : α} : Sz ([a, b, c, d, e, f] : List α) := ⟨Nat.le_of_ble_eq_true rfl⟩
instance {α : Type} {a b c d e f g : α} : Cnt ([a, b, c, d, e, f, g] : List α) 7 := ⟨rfl⟩
instance {α : Type} {a b c d e f g : α} : Sz ([a, b, c, d, e, f, g] : List α) := ⟨Nat.le_of_ble_eq_true rfl⟩
instance {α : Type} {a b c d e f g h : α} : Cnt ([a, b, c, d, e, f, g, h] : List α) 8 := ⟨rfl⟩
instance {α : Type} {a b c d e f g h : α} : Sz ([a, b, c, d, e, f, g, h] : List α) := ⟨Nat.le_of_ble_eq_true rfl⟩
/-- what never changes, as data -/
class Dats (ws : List W) (ds : outParam (List PyData)) : Prop where
  e : datas ws = some ds
instance : Dats [] [] := ⟨rfl⟩
theorem datas_cons {x : PyData} {ws : List W} {ds : List PyData} (h : datas ws = some ds) : datas (.d x :: ws) = some (x :: ds) := by unfold datas; rw [h]
instance {x : PyData} {ws : List W} {ds : List PyData} [h : Dats ws ds] : Dats (.d x :: ws) (x :: ds) := ⟨datas_cons h.e⟩
instance {ds : List PyData} : Dats (ds.map W.d) ds := ⟨datas_map ds⟩
class MapD (ds : List PyData) (ws : outParam (List W)) : Prop where
  e : ds.map W.d = ws
instance : MapD [] [] := ⟨rfl⟩
instance {x : PyData} {ws : List W} {ds : List PyData} [h : MapD ds ws] : MapD (x :: ds) (.d x :: ws) := ⟨by rw [List.map_cons, h.e]⟩
instance (priority := low) {ds : List PyData} : MapD ds (ds.map W.d) := ⟨rfl⟩
/-! #### the store: what was there, and cells of one's own behind -/
class Len (O : Oh) (n : outParam Nat) : Prop where
  e : O.length = n
class CloC (n : Nat) (O : Oh) : Prop where
  e : Clo n O = true
class Cl (O : Oh) (j : Nat) (c : outParam Cell) : Prop where
  e : O[j]? = some c
instance {O L : Oh} {n k : Nat} {c : Cell} [l : Len O n] [g : Get L k c] : Cl (O ++ L) (n + k) c := ⟨by rw [← l.e, List.getElem?_append_right (Nat.le_add_right _ _), Nat.add_sub_cancel_left]; exact g.e⟩
instance (priority := low) {O L : Oh} {j : Nat} {c : Cell} [g : Cl O j c] : Cl (O ++ L) j c := ⟨by rw [List.getElem?_append_left (List.getElem?_eq_some_iff.mp g.e).1]; exact g.e⟩
/-- a cell put -/
class St (O : Oh) (j : Nat) (c : Cell) (O' : outParam Oh) : Prop where
  e : O.set j c = O'
theorem set_app {O L : Oh} {k : Nat} {c : Cell} : (O ++ L).set (O.length + k) c = O ++ L.set k c := by
  rw [List.set_append_right _ _ (Nat.le_add_right _ _), Nat.add_sub_cancel_left]
instance {O L L' : Oh} {n k : Nat} {c : Cell} [l : Len O n] [g : Put L k c L'] : St (O ++ L) (n + k) c (O ++ L') := ⟨by rw [← l.e, set_app, g.e]⟩
/-- a new cell -/
class Nw (O : Oh) (c : Cell) (j : outParam Nat) (O' : outParam Oh) : Prop where
  e : O.length = j ∧ O ++ [c] = O'
instance {O L L' : Oh} {n k : Nat} {c : Cell} [l : Len O n] [g : Cnt L k] [s : Snoc L c L'] : Nw (O ++ L) c (n + k) (O ++ L') := ⟨by rw [List.length_append, l.e, g.e, List.append_assoc, s.e]; exact ⟨rfl, rfl⟩⟩
/-! #### defs -/
class SG (N : Nat) (ws : List W) (Γ : outParam Gm) : Prop where
  e : startG N ws = Γ
instance : SG 0 [] [] := ⟨rfl⟩
instance {N : Nat} {Γ : Gm} [h : SG N [] Γ] : SG (N + 1) [] (none :: Γ) := ⟨by rw [← h.e]; rfl⟩
instance {N : Nat} {w : W} {ws : List W} {Γ : Gm} [h : SG N ws Γ] : SG (N + 1) (w :: ws) (some w :: Γ) := ⟨by
  rw [← h.e]; unfold startG; rw [List.map_cons, List.length_cons, Nat.add_sub_add_right]; rfl⟩
theorem def_start {N m : Nat} {b : DSt} {ws : List W} {O : Oh} {R : DK} {xe : Exn → Oh → Prop} {Γ : Gm} (hl : ws.length = m) [hg : SG N ws Γ]
    (h : ∀ n, [Len O n] → [CloC n O] → b ⟨fun _ O' => Fin n O' (R (.d .none)), dAns n R, fun _ _ => False, fun _ _ => False⟩ (fun ex _ O' => Fin n O' (xe ex)) Γ (O ++ [])) : dDef N m b ws O R xe := by
  refine ⟨hl, fun c => ?_⟩
  haveI : Len O O.length := ⟨rfl⟩
  haveI : CloC O.length O := ⟨c⟩
  have := h O.length
  rw [List.append_nil] at this
  rw [hg.e]
  exact this
theorem def_startC {N m : Nat} {b : DSt} {ws : List W} {O : Oh} {R : DK} {xe : Exn → Oh → Prop} {Γ : Gm} (hl : ws.length = m) [hg : SG N ws Γ]
    (h : ∀ n, [Len O n] → [CloC n O] → b ⟨fun _ O' => Fin n O' (R (.d .none)), dAnsC n R, fun _ _ => False, fun _ _ => False⟩ (fun ex _ O' => Fin n O' (xe ex)) Γ (O ++ [])) : dDefC N m b ws O R xe := by
  refine ⟨hl, fun c => ?_⟩
  haveI : Len O O.length := ⟨rfl⟩
  haveI : CloC O.length O := ⟨c⟩
  have := h O.length
  rw [List.append_nil] at this
  rw [hg.e]
  exact this
theorem fin_go {O L : Oh} {n : Nat} {k : Oh → Prop} [l : Len O n] [c : CloC n O] (h : k O) : Fin n (O ++ L) k := by
  refine .inr ?_
  rw [← l.e, List.take_left, l.e]
  exact ⟨c.e, h⟩
instance {O L : Oh} {n : Nat} {k : Oh → Prop} [l : Len O n] [c : CloC n O] : Go (Fin n (O ++ L) k) (k O) := ⟨fin_go⟩
instance {O L : Oh} {n : Nat} {R : DK} {x : PyData} [l : Len O n] [c : CloC n O] : Go (dAns n R (.d x) (O ++ L)) (R (.d x) O) := ⟨fin_go (k := R (.d x))⟩
instance {O L : Oh} {n : Nat} {R : DK} {x : PyData} [l : Len O n] [c : CloC n O] : Go (dAnsC n R (.d x) (O ++ L)) (R (.d x) O) := ⟨fin_go (k := R (.d x))⟩
theorem ans_own {O L : Oh} {n k : Nat} {R : DK} {ws : List W} {ds : List PyData} (l : Len O n) (c : CloC n O) (g : Cl (O ++ L) (n + k) (.lst ws)) (d : Dats ws ds) (h : R (.d (.list ds)) O) : dAns n R (.c (n + k)) (O ++ L) := by
  show (if n + k < n then _ else _)
  rw [if_neg (by omega), g.e]
  dsimp only
  rw [d.e]
  exact fin_go (k := R (.d (.list ds))) h
instance {O L : Oh} {n k : Nat} {R : DK} {ws : List W} {ds : List PyData} [l : Len O n] [c : CloC n O] [g : Cl (O ++ L) (n + k) (.lst ws)] [d : Dats ws ds] : Go (dAns n R (.c (n + k)) (O ++ L)) (R (.d (.list ds)) O) := ⟨ans_own l c g d⟩
class CLt (n : Nat) (c : Cell) : Prop where
  e : c.lt n = true
theorem datas_all {n : Nat} : ∀ {ws : List W} {ds : List PyData}, datas ws = some ds → ws.all (W.lt n) = true
  | [], _, _ => rfl
  | .d x :: r, ds, h => by
    unfold datas at h
    split at h
    · next xs e => rw [List.all_cons, datas_all e]; rfl
    · cases h
  | .c _ :: _, _, h | .k _ :: _, _, h | .p _ :: _, _, h | .q _ _ :: _, _, h | .o _ _ _ :: _, _, h | .t _ :: _, _, h => by cases h
instance {n : Nat} {ws : List W} {ds : List PyData} [d : Dats ws ds] : CLt n (.lst ws) := ⟨datas_all d.e⟩
theorem ansC_own {O L : Oh} {n k : Nat} {R : DK} {c : Cell} (l : Len O n) (cl : CloC n O) (g : Get L k c) (hc : CLt n c) (h : R (.c n) (O ++ [c])) : dAnsC n R (.c (n + k)) (O ++ L) := by
  have e : (O ++ L).take n = O := by rw [← l.e, List.take_left]
  refine ⟨Nat.le_add_right _ _, by rw [e]; exact cl.e, c, ?_, hc.e, by rw [e]; exact h⟩
  rw [← l.e, List.getElem?_append_right (Nat.le_add_right _ _), Nat.add_sub_cancel_left]
  exact g.e
instance {O L : Oh} {n k : Nat} {R : DK} {c : Cell} [l : Len O n] [cl : CloC n O] [g : Get L k c] [hc : CLt n c] : Go (dAnsC n R (.c (n + k)) (O ++ L)) (R (.c n) (O ++ [c])) := ⟨ansC_own l cl g hc⟩
/-! #### statements -/
instance {f b c : Gm → Oh → Prop} {r : DK} {Γ : Gm} {O : Oh} {xe : DX} : Go (dNext ⟨f, r, b, c⟩ xe Γ O) (f Γ O) := ⟨fun h => h⟩
instance {f b c : Gm → Oh → Prop} {r : DK} {Γ : Gm} {O : Oh} {xe : DX} {t u : DSt} : Go (dSeq t u ⟨f, r, b, c⟩ xe Γ O) (t ⟨u ⟨f, r, b, c⟩ xe, r, b, c⟩ xe Γ O) := ⟨fun h => h⟩
instance {f b c : Gm → Oh → Prop} {r : DK} {Γ : Gm} {O : Oh} {xe : DX} : Go (dBreak ⟨f, r, b, c⟩ xe Γ O) (b Γ O) := ⟨fun h => h⟩
instance {f b c : Gm → Oh → Prop} {r : DK} {Γ : Gm} {O : Oh} {xe : DX} : Go (dCont ⟨f, r, b, c⟩ xe Γ O) (c Γ O) := ⟨fun h => h⟩
def kDrop (f : Gm → Oh → Prop) (Γ : Gm) : DK := fun _ O => f Γ O
instance {f b c : Gm → Oh → Prop} {r : DK} {Γ : Gm} {O : Oh} {xe : DX} {w : DEx} : Go (dDrop w ⟨f, r, b, c⟩ xe Γ O) (w Γ O (kDrop f Γ) xe) := ⟨fun h => h⟩
instance {f : Gm → Oh → Prop} {Γ : Gm} {x : W} {O : Oh} : Go (kDrop f Γ x O) (f Γ O) := ⟨fun h => h⟩
instance {f b c : Gm → Oh → Prop} {r : DK} {Γ : Gm} {O : Oh} {xe : DX} {w : DEx} : Go (dRet w ⟨f, r, b, c⟩ xe Γ O) (w Γ O r xe) := ⟨fun h => h⟩
instance {f b c : Gm → Oh → Prop} {r : DK} {Γ : Gm} {O : Oh} {xe : DX} : Go (dRetN ⟨f, r, b, c⟩ xe Γ O) (r (.d .none) O) := ⟨fun h => h⟩
def kIf (t u : DSt) (D : DEnds) (xe : DX) (Γ : Gm) : Bool → Oh → Prop := fun b O => if b = true then t D xe Γ O else u D xe Γ O
instance {Γ : Gm} {O : Oh} {xe : DX} {D : DEnds} {c : DT} {t u : DSt} : Go (dIf c t u D xe Γ O) (c Γ O (kIf t u D xe Γ) xe) := ⟨fun h => h⟩
instance {Γ : Gm} {O : Oh} {xe : DX} {D : DEnds} {t u : DSt} : Go (kIf t u D xe Γ true O) (t D xe Γ O) := ⟨fun h => by unfold kIf; rw [if_pos rfl]; exact h⟩
instance {Γ : Gm} {O : Oh} {xe : DX} {D : DEnds} {t u : DSt} : Go (kIf t u D xe Γ false O) (u D xe Γ O) := ⟨fun h => by unfold kIf; rw [if_neg Bool.false_ne_true]; exact h⟩
def kAsg (t : Tg) (f : Gm → Oh → Prop) (Γ : Gm) : DK := fun x O => t.put x Γ fun Γ' => f Γ' O
instance {f b c : Gm → Oh → Prop} {r : DK} {Γ : Gm} {O : Oh} {xe : DX} {w : DEx} {t : Tg} : Go (dAsg w t ⟨f, r, b, c⟩ xe Γ O) (w Γ O (kAsg t f Γ) xe) := ⟨fun h => h⟩
instance {f : Gm → Oh → Prop} {Γ : Gm} {x : W} {O : Oh} {t : Tg} : Go (kAsg t f Γ x O) (t.put x Γ fun Γ' => f Γ' O) := ⟨fun h => h⟩
theorem put_nm {Γ Γ' : Gm} {i : Nat} {x : W} {R : Gm → Prop} [g : Put Γ i (some x) Γ'] (h : R Γ') : (Tg.nm i).put x Γ R := by unfold Tg.put; rw [g.e]; exact h
instance {Γ Γ' : Gm} {i : Nat} {x : W} {R : Gm → Prop} [g : Put Γ i (some x) Γ'] : Go ((Tg.nm i).put x Γ R) (R Γ') := ⟨put_nm⟩
theorem put_tup {Γ : Gm} {ts : List Tg} {ds : List PyData} {ws : List W} {R : Gm → Prop} [m : MapD ds ws] (h : Tg.puts ts ws Γ R) : (Tg.tup ts).put (.d (.tuple ds)) Γ R := by unfold Tg.put; dsimp only; rw [m.e]; exact h
instance {Γ : Gm} {ts : List Tg} {ds : List PyData} {ws : List W} {R : Gm → Prop} [m : MapD ds ws] : Go ((Tg.tup ts).put (.d (.tuple ds)) Γ R) (Tg.puts ts ws Γ R) := ⟨put_tup⟩
theorem put_p {Γ : Gm} {ts : List Tg} {ds : List PyData} {ws : List W} {R : Gm → Prop} [m : MapD ds ws] (h : Tg.puts ts ws Γ R) : (Tg.tup ts).put (.p ds) Γ R := by unfold Tg.put; dsimp only; rw [m.e]; exact h
instance {Γ : Gm} {ts : List Tg} {ds : List PyData} {ws : List W} {R : Gm → Prop} [m : MapD ds ws] : Go ((Tg.tup ts).put (.p ds) Γ R) (Tg.puts ts ws Γ R) := ⟨put_p⟩
instance {Γ : Gm} {R : Gm → Prop} : Go (Tg.puts [] [] Γ R) (R Γ) := ⟨fun h => by unfold Tg.puts; exact h⟩
instance {Γ : Gm} {t : Tg} {ts : List Tg} {w : W} {ws : List W} {R : Gm → Prop} : Go (Tg.puts (t :: ts) (w :: ws) Γ R) (t.put w Γ fun Γ1 => Tg.puts ts ws Γ1 R) := ⟨fun h => by unfold Tg.puts; exact h⟩
def kPar (i j : Nat) (f : Gm → Oh → Prop) (Γ : Gm) : List W → Oh → Prop := fun vs O => match vs with
  | [v, w] => f ((Γ.set i (some v)).set j (some w)) O
  | _ => False
instance {f b c : Gm → Oh → Prop} {r : DK} {Γ : Gm} {O : Oh} {xe : DX} {i j : Nat} {ws : DA} : Go (dPar i j ws ⟨f, r, b, c⟩ xe Γ O) (ws Γ O (kPar i j f Γ) xe) := ⟨fun h => h⟩
instance {f : Gm → Oh → Prop} {Γ Γ1 Γ2 : Gm} {i j : Nat} {v w : W} {O : Oh} [g1 : Put Γ i (some v) Γ1] [g2 : Put Γ1 j (some w) Γ2] : Go (kPar i j f Γ [v, w] O) (f Γ2 O) := ⟨fun h => by unfold kPar; dsimp only; rw [g1.e, g2.e]; exact h⟩
/-! #### expressions -/
theorem go_var {Γ : Gm} {O : Oh} {R : DK} {xe : DX} {i : Nat} {w : W} [g : Get Γ i (some w)] (h : R w O) : dVar i Γ O R xe := by unfold dVar; rw [g.e]; exact h
instance {Γ : Gm} {O : Oh} {R : DK} {xe : DX} {i : Nat} {w : W} [g : Get Γ i (some w)] : Go (dVar i Γ O R xe) (R w O) := ⟨go_var⟩
instance {R : DK} {Γ : Gm} {O : Oh} {xe : DX} {x : PyData} : Go (dC x Γ O R xe) (R (.d x) O) := ⟨fun h => h⟩
def kOp2 (f : D2) (x : W) (R : DK) : DK := fun y O => f x y O R
def kOp1 (f : D2) (wb : DEx) (Γ : Gm) (R : DK) (xe : DX) : DK := fun x O => wb Γ O (kOp2 f x R) xe
instance {R : DK} {Γ : Gm} {O : Oh} {xe : DX} {f : D2} {wa wb : DEx} : Go (dOp f wa wb Γ O R xe) (wa Γ O (kOp1 f wb Γ R xe) xe) := ⟨fun h => h⟩
instance {R : DK} {Γ : Gm} {O : Oh} {xe : DX} {f : D2} {wb : DEx} {x : W} : Go (kOp1 f wb Γ R xe x O) (wb Γ O (kOp2 f x R) xe) := ⟨fun h => h⟩
instance {R : DK} {O : Oh} {f : D2} {x y : W} : Go (kOp2 f x R y O) (f x y O R) := ⟨fun h => h⟩
def kB (R : Bool → Oh → Prop) : DK := fun r O => match r with
  | .d (.bool b) => R b O
  | _ => False
instance {R : Bool → Oh → Prop} {Γ : Gm} {O : Oh} {xe : DX} {w : DEx} : Go (dB w Γ O R xe) (w Γ O (kB R) xe) := ⟨fun h => h⟩
instance {R : Bool → Oh → Prop} {O : Oh} {b : Bool} : Go (kB R (.d (.bool b)) O) (R b O) := ⟨fun h => h⟩
instance {R : Bool → Oh → Prop} {Γ : Gm} {O : Oh} {xe : DX} : Go (dYes Γ O R xe) (R true O) := ⟨fun h => h⟩
def kAnd (u : DT) (Γ : Gm) (R : Bool → Oh → Prop) (xe : DX) : Bool → Oh → Prop := fun b O => if b = true then u Γ O R xe else R false O
instance {R : Bool → Oh → Prop} {Γ : Gm} {O : Oh} {xe : DX} {t u : DT} : Go (dAnd t u Γ O R xe) (t Γ O (kAnd u Γ R xe) xe) := ⟨fun h => h⟩
instance {R : Bool → Oh → Prop} {Γ : Gm} {O : Oh} {xe : DX} {u : DT} : Go (kAnd u Γ R xe true O) (u Γ O R xe) := ⟨fun h => by unfold kAnd; rw [if_pos rfl]; exact h⟩
instance {R : Bool → Oh → Prop} {Γ : Gm} {O : Oh} {xe : DX} {u : DT} : Go (kAnd u Γ R xe false O) (R false O) := ⟨fun h => by unfold kAnd; rw [if_neg Bool.false_ne_true]; exact h⟩
def kOr (u : DT) (Γ : Gm) (R : Bool → Oh → Prop) (xe : DX) : Bool → Oh → Prop := fun b O => if b = true then R true O else u Γ O R xe
instance {R : Bool → Oh → Prop} {Γ : Gm} {O : Oh} {xe : DX} {t u : DT} : Go (dOr t u Γ O R xe) (t Γ O (kOr u Γ R xe) xe) := ⟨fun h => h⟩
instance {R : Bool → Oh → Prop} {Γ : Gm} {O : Oh} {xe : DX} {u : DT} : Go (kOr u Γ R xe true O) (R true O) := ⟨fun h => by unfold kOr; rw [if_pos rfl]; exact h⟩
instance {R : Bool → Oh → Prop} {Γ : Gm} {O : Oh} {xe : DX} {u : DT} : Go (kOr u Γ R xe false O) (u Γ O R xe) := ⟨fun h => by unfold kOr; rw [if_neg Bool.false_ne_true]; exact h⟩
def kNot (R : Bool → Oh → Prop) : Bool → Oh → Prop := fun b O => R (!b) O
instance {R : Bool → Oh → Prop} {Γ : Gm} {O : Oh} {xe : DX} {t : DT} : Go (dNot t Γ O R xe) (t Γ O (kNot R) xe) := ⟨fun h => h⟩
instance {R : Bool → Oh → Prop} {O : Oh} : Go (kNot R true O) (R false O) := ⟨fun h => h⟩
instance {R : Bool → Oh → Prop} {O : Oh} : Go (kNot R false O) (R true O) := ⟨fun h => h⟩
def kAndV (wb : DEx) (Γ : Gm) (R : DK) (xe : DX) : DK := fun r O => match r with
  | .d (.bool b) => if b = true then wb Γ O R xe else R (.d (.bool false)) O
  | _ => False
instance {R : DK} {Γ : Gm} {O : Oh} {xe : DX} {wa wb : DEx} : Go (dAndV wa wb Γ O R xe) (wa Γ O (kAndV wb Γ R xe) xe) := ⟨fun h => h⟩
instance {R : DK} {Γ : Gm} {O : Oh} {xe : DX} {wb : DEx} : Go (kAndV wb Γ R xe (.d (.bool true)) O) (wb Γ O R xe) := ⟨fun h => by unfold kAndV; dsimp only; rw [if_pos rfl]; exact h⟩
instance {R : DK} {Γ : Gm} {O : Oh} {xe : DX} {wb : DEx} : Go (kAndV wb Γ R xe (.d (.bool false)) O) (R (.d (.bool false)) O) := ⟨fun h => by unfold kAndV; dsimp only; rw [if_neg Bool.false_ne_true]; exact h⟩
def kOrV (wb : DEx) (Γ : Gm) (R : DK) (xe : DX) : DK := fun r O => match r with
  | .d (.bool b) => if b = true then R (.d (.bool true)) O else wb Γ O R xe
  | _ => False
instance {R : DK} {Γ : Gm} {O : Oh} {xe : DX} {wa wb : DEx} : Go (dOrV wa wb Γ O R xe) (wa Γ O (kOrV wb Γ R xe) xe) := ⟨fun h => h⟩
instance {R : DK} {Γ : Gm} {O : Oh} {xe : DX} {wb : DEx} : Go (kOrV wb Γ R xe (.d (.bool true)) O) (R (.d (.bool true)) O) := ⟨fun h => by unfold kOrV; dsimp only; rw [if_pos rfl]; exact h⟩
instance {R : DK} {Γ : Gm} {O : Oh} {xe : DX} {wb : DEx} : Go (kOrV wb Γ R xe (.d (.bool false)) O) (wb Γ O R xe) := ⟨fun h => by unfold kOrV; dsimp only; rw [if_neg Bool.false_ne_true]; exact h⟩
def kNotV (R : DK) : DK := fun r O => match r with
  | .d (.bool b) => R (.d (.bool (!b))) O
  | _ => False
instance {R : DK} {Γ : Gm} {O : Oh} {xe : DX} {w : DEx} : Go (dNotV w Γ O R xe) (w Γ O (kNotV R) xe) := ⟨fun h => h⟩
instance {R : DK} {O : Oh} {b : Bool} : Go (kNotV R (.d (.bool b)) O) (R (.d (.bool (!b))) O) := ⟨fun h => h⟩
def kIfE (wa wb : DEx) (Γ : Gm) (R : DK) (xe : DX) : Bool → Oh → Prop := fun b O => if b = true then wa Γ O R xe else wb Γ O R xe
instance {R : DK} {Γ : Gm} {O : Oh} {xe : DX} {t : DT} {wa wb : DEx} : Go (dIfE t wa wb Γ O R xe) (t Γ O (kIfE wa wb Γ R xe) xe) := ⟨fun h => h⟩
instance {R : DK} {Γ : Gm} {O : Oh} {xe : DX} {wa wb : DEx} : Go (kIfE wa wb Γ R xe true O) (wa Γ O R xe) := ⟨fun h => by unfold kIfE; rw [if_pos rfl]; exact h⟩
instance {R : DK} {Γ : Gm} {O : Oh} {xe : DX} {wa wb : DEx} : Go (kIfE wa wb Γ R xe false O) (wb Γ O R xe) := ⟨fun h => by unfold kIfE; rw [if_neg Bool.false_ne_true]; exact h⟩
instance {R : List W → Oh → Prop} {Γ : Gm} {O : Oh} {xe : DX} : Go (dNil Γ O R xe) (R [] O) := ⟨fun h => h⟩
def kCons2 (x : W) (R : List W → Oh → Prop) : List W → Oh → Prop := fun xs O => R (x :: xs) O
def kCons1 (ws : DA) (Γ : Gm) (R : List W → Oh → Prop) (xe : DX) : DK := fun x O => ws Γ O (kCons2 x R) xe
instance {R : List W → Oh → Prop} {Γ : Gm} {O : Oh} {xe : DX} {wa : DEx} {ws : DA} : Go (dCons wa ws Γ O R xe) (wa Γ O (kCons1 ws Γ R xe) xe) := ⟨fun h => h⟩
instance {R : List W → Oh → Prop} {Γ : Gm} {O : Oh} {xe : DX} {x : W} {ws : DA} : Go (kCons1 ws Γ R xe x O) (ws Γ O (kCons2 x R) xe) := ⟨fun h => h⟩
instance {R : List W → Oh → Prop} {O : Oh} {x : W} {xs : List W} : Go (kCons2 x R xs O) (R (x :: xs) O) := ⟨fun h => h⟩
def kTup (R : DK) : List W → Oh → Prop := fun ws O => match datas ws with
  | some ds => ds.length ≤ 1000000 ∧ R (.d (.tuple ds)) O
  | none => False
instance {R : DK} {Γ : Gm} {O : Oh} {xe : DX} {ws : DA} : Go (dTup ws Γ O R xe) (ws Γ O (kTup R) xe) := ⟨fun h => h⟩
theorem go_tuple {R : DK} {O : Oh} {ws : List W} {ds : List PyData} [d : Dats ws ds] [z : Sz ds] (h : R (.d (.tuple ds)) O) : kTup R ws O := by unfold kTup; rw [d.e]; exact ⟨z.e, h⟩
instance {R : DK} {O : Oh} {ws : List W} {ds : List PyData} [d : Dats ws ds] [z : Sz ds] : Go (kTup R ws O) (R (.d (.tuple ds)) O) := ⟨go_tuple⟩
def kLst (R : DK) : List W → Oh → Prop := fun ws O => match datas ws with
  | some ds => ds.length ≤ 1000000 ∧ R (.d (.list ds)) O
  | none => False
instance {R : DK} {Γ : Gm} {O : Oh} {xe : DX} {ws : DA} : Go (dLst ws Γ O R xe) (ws Γ O (kLst R) xe) := ⟨fun h => h⟩
theorem go_list {R : DK} {O : Oh} {ws : List W} {ds : List PyData} [d : Dats ws ds] [z : Sz ds] (h : R (.d (.list ds)) O) : kLst R ws O := by unfold kLst; rw [d.e]; exact ⟨z.e, h⟩
instance {R : DK} {O : Oh} {ws : List W} {ds : List PyData} [d : Dats ws ds] [z : Sz ds] : Go (kLst R ws O) (R (.d (.list ds)) O) := ⟨go_list⟩
def kLstC (R : DK) : List W → Oh → Prop := fun ws O => ws.length ≤ 1000000 ∧ R (.c O.length) (O ++ [.lst ws])
instance {R : DK} {Γ : Gm} {O : Oh} {xe : DX} {ws : DA} : Go (dLstC ws Γ O R xe) (ws Γ O (kLstC R) xe) := ⟨fun h => h⟩
theorem go_lstC {R : DK} {O O' : Oh} {j : Nat} {ws : List W} [z : Sz ws] [n : Nw O (.lst ws) j O'] (h : R (.c j) O') : kLstC R ws O := by refine ⟨z.e, ?_⟩; rw [n.e.1, n.e.2]; exact h
instance {R : DK} {O O' : Oh} {j : Nat} {ws : List W} [z : Sz ws] [n : Nw O (.lst ws) j O'] : Go (kLstC R ws O) (R (.c j) O') := ⟨go_lstC⟩
theorem go_dicK {R : DK} {O O' : Oh} {Γ : Gm} {xe : DX} {j : Nat} [n : Nw O (.dic []) j O'] (h : R (.c j) O') : dDicK Γ O R xe := by unfold dDicK; rw [n.e.1, n.e.2]; exact h
instance {R : DK} {O O' : Oh} {Γ : Gm} {xe : DX} {j : Nat} [n : Nw O (.dic []) j O'] : Go (dDicK Γ O R xe) (R (.c j) O') := ⟨go_dicK⟩
instance {R : DK} {O O' : Oh} {Γ : Gm} {xe : DX} {j : Nat} [n : Nw O (.dct []) j O'] : Go (dDicT Γ O R xe) (R (.c j) O') := ⟨fun h => by unfold dDicT; rw [n.e.1, n.e.2]; exact h⟩
instance {R : DK} {Γ : Gm} {O : Oh} {xe : DX} : Go (dDicE Γ O R xe) (R (.d (.dict [])) O) := ⟨fun h => h⟩
def kCB (f : DC) (R : DK) : List W → Oh → Prop := fun xs O => f xs O R
instance {R : DK} {Γ : Gm} {O : Oh} {xe : DX} {f : DC} {ws : DA} : Go (dCB f ws Γ O R xe) (ws Γ O (kCB f R) xe) := ⟨fun h => h⟩
instance {R : DK} {O : Oh} {f : DC} {xs : List W} : Go (kCB f R xs O) (f xs O R) := ⟨fun h => h⟩
def kC0 (f : DFn) (R : DK) : List W → Oh → Prop := fun xs O => f xs O R fun _ _ => False
instance {R : DK} {Γ : Gm} {O : Oh} {xe : DX} {f : DFn} {ws : DA} : Go (dCall0 f ws Γ O R xe) (ws Γ O (kC0 f R) xe) := ⟨fun h => h⟩
instance {R : DK} {O : Oh} {f : DFn} {xs : List W} : Go (kC0 f R xs O) (f xs O R fun _ _ => False) := ⟨fun h => h⟩
def kC (f : DFn) (Γ : Gm) (R : DK) (xe : DX) : List W → Oh → Prop := fun xs O => f xs O R fun ex O2 => xe ex Γ O2
instance {R : DK} {Γ : Gm} {O : Oh} {xe : DX} {f : DFn} {ws : DA} : Go (dCall f ws Γ O R xe) (ws Γ O (kC f Γ R xe) xe) := ⟨fun h => h⟩
instance {R : DK} {Γ : Gm} {O : Oh} {xe : DX} {f : DFn} {xs : List W} : Go (kC f Γ R xe xs O) (f xs O R fun ex O2 => xe ex Γ O2) := ⟨fun h => h⟩
def kNeg (R : DK) : DK := fun r O => match r with
  | .d (.int i) => R (.d (.int (-i))) O
  | _ => False
instance {R : DK} {Γ : Gm} {O : Oh} {xe : DX} {w : DEx} : Go (dNeg w Γ O R xe) (w Γ O (kNeg R) xe) := ⟨fun h => h⟩
instance {R : DK} {O : Oh} {i : Int} : Go (kNeg R (.d (.int i)) O) (R (.d (.int (-i))) O) := ⟨fun h => h⟩
/-- what type a thing has -/
class TyW (x : W) (O : Oh) (t : outParam String) : Prop where
  e : tyW x O = some t
instance {O : Oh} : TyW (.d (.none)) O "NoneType" := ⟨rfl⟩
instance {b : Bool} {O : Oh} : TyW (.d (.bool b)) O "bool" := ⟨rfl⟩
instance {i : Int} {O : Oh} : TyW (.d (.int i)) O "int" := ⟨rfl⟩
instance {s : Str} {O : Oh} : TyW (.d (.str s)) O "str" := ⟨rfl⟩
instance {l : List PyData} {O : Oh} : TyW (.d (.list l)) O "list" := ⟨rfl⟩
instance {l : List PyData} {O : Oh} : TyW (.d (.tuple l)) O "tuple" := ⟨rfl⟩
instance {O : Oh} : TyW (.d (.dict [])) O "dict" := ⟨rfl⟩
class SubT (t T : String) (b : outParam Bool) : Prop where
  e : subT t T = b
instance : SubT "NoneType" "bool" false := ⟨by decide⟩
instance : SubT "NoneType" "int" false := ⟨by decide⟩
instance : SubT "NoneType" "str" false := ⟨by decide⟩
instance : SubT "NoneType" "list" false := ⟨by decide⟩
instance : SubT "NoneType" "tuple" false := ⟨by decide⟩
instance : SubT "NoneType" "dict" false := ⟨by decide⟩
instance : SubT "bool" "bool" true := ⟨by decide⟩
instance : SubT "bool" "int" true := ⟨by decide⟩
instance : SubT "bool" "str" false := ⟨by decide⟩
instance : SubT "bool" "list" false := ⟨by decide⟩
instance : SubT "bool" "tuple" false := ⟨by decide⟩
instance : SubT "bool" "dict" false := ⟨by decide⟩
instance : SubT "int" "bool" false := ⟨by decide⟩
instance : SubT "int" "int" true := ⟨by decide⟩
instance : SubT "int" "str" false := ⟨by decide⟩
instance : SubT "int" "list" false := ⟨by decide⟩
instance : SubT "int" "tuple" false := ⟨by decide⟩
instance : SubT "int" "dict" false := ⟨by decide⟩
instance : SubT "str" "bool" false := ⟨by decide⟩
instance : SubT "str" "int" false := ⟨by decide⟩
instance : SubT "str" "str" true := ⟨by decide⟩
instance : SubT "str" "list" false := ⟨by decide⟩
instance : SubT "str" "tuple" false := ⟨by decide⟩
instance : SubT "str" "dict" false := ⟨by decide⟩
instance : SubT "list" "bool" false := ⟨by decide⟩
instance : SubT "list" "int" false := ⟨by decide⟩
instance : SubT "list" "str" false := ⟨by decide⟩
instance : SubT "list" "list" true := ⟨by decide⟩
instance : SubT "list" "tuple" false := ⟨by decide⟩
instance : SubT "list" "dict" false := ⟨by decide⟩
instance : SubT "tuple" "bool" false := ⟨by decide⟩
instance : SubT "tuple" "int" false := ⟨by decide⟩
instance : SubT "tuple" "str" false := ⟨by decide⟩
instance : SubT "tuple" "list" false := ⟨by decide⟩
instance : SubT "tuple" "tuple" true := ⟨by decide⟩
instance : SubT "tuple" "dict" false := ⟨by decide⟩
instance : SubT "dict" "bool" false := ⟨by decide⟩
instance : SubT "dict" "int" false := ⟨by decide⟩
instance : SubT "dict" "str" false := ⟨by decide⟩
instance : SubT "dict" "list" false := ⟨by decide⟩
instance : SubT "dict" "tuple" false := ⟨by decide⟩
instance : SubT "dict" "dict" true := ⟨by decide⟩
def kIsi (T : String) (R : DK) : DK := fun x O => match tyW x O with
  | some t => R (.d (.bool (subT t T))) O
  | none => False
instance {R : DK} {Γ : Gm} {O : Oh} {xe : DX} {T : String} {w : DEx} : Go (dIsi T w Γ O R xe) (w Γ O (kIsi T R) xe) := ⟨fun h => h⟩
theorem go_isi {R : DK} {O : Oh} {T t : String} {x : W} {b : Bool} [h1 : TyW x O t] [h2 : SubT t T b] (h : R (.d (.bool b)) O) : kIsi T R x O := by unfold kIsi; rw [h1.e]; dsimp only; rw [h2.e]; exact h
instance {R : DK} {O : Oh} {T t : String} {x : W} {b : Bool} [h1 : TyW x O t] [h2 : SubT t T b] : Go (kIsi T R x O) (R (.d (.bool b)) O) := ⟨go_isi⟩
/-! #### slices, ends -/
instance {R : Option Int → Oh → Prop} {Γ : Gm} {O : Oh} {xe : DX} : Go (dO0 Γ O R xe) (R none O) := ⟨fun h => h⟩
def kO1 (R : Option Int → Oh → Prop) : DK := fun x O => match x with
  | .d (.int i) => R (some i) O
  | _ => False
instance {R : Option Int → Oh → Prop} {Γ : Gm} {O : Oh} {xe : DX} {w : DEx} : Go (dO1 w Γ O R xe) (w Γ O (kO1 R) xe) := ⟨fun h => h⟩
instance {R : Option Int → Oh → Prop} {O : Oh} {i : Int} : Go (kO1 R (.d (.int i)) O) (R (some i) O) := ⟨fun h => h⟩
def kSl3 (x : W) (lo : Option Int) (R : DK) : Option Int → Oh → Prop := fun hi O => dSl x lo hi O R
def kSl2 (x : W) (wh : DO) (Γ : Gm) (R : DK) (xe : DX) : Option Int → Oh → Prop := fun lo O => wh Γ O (kSl3 x lo R) xe
def kSl1 (wl wh : DO) (Γ : Gm) (R : DK) (xe : DX) : DK := fun x O => wl Γ O (kSl2 x wh Γ R xe) xe
instance {R : DK} {Γ : Gm} {O : Oh} {xe : DX} {wo : DEx} {wl wh : DO} : Go (dSlice wo wl wh Γ O R xe) (wo Γ O (kSl1 wl wh Γ R xe) xe) := ⟨fun h => h⟩
instance {R : DK} {Γ : Gm} {O : Oh} {xe : DX} {x : W} {wl wh : DO} : Go (kSl1 wl wh Γ R xe x O) (wl Γ O (kSl2 x wh Γ R xe) xe) := ⟨fun h => h⟩
instance {R : DK} {Γ : Gm} {O : Oh} {xe : DX} {x : W} {wh : DO} {lo : Option Int} : Go (kSl2 x wh Γ R xe lo O) (wh Γ O (kSl3 x lo R) xe) := ⟨fun h => h⟩
instance {R : DK} {O : Oh} {x : W} {lo hi : Option Int} : Go (kSl3 x lo R hi O) (dSl x lo hi O R) := ⟨fun h => h⟩
instance {R : DK} {O : Oh} {ds : List PyData} {lo hi : Option Int} : Go (dSl (.d (.tuple ds)) lo hi O R) (R (.d (.tuple (cutL ds lo hi))) O) := ⟨fun h => h⟩
instance {R : DK} {O : Oh} {ds : List PyData} {lo hi : Option Int} : Go (dSl (.d (.list ds)) lo hi O R) (R (.d (.list (cutL ds lo hi))) O) := ⟨fun h => h⟩
class AsL (x : W) (O : Oh) (ws : outParam (List W)) : Prop where
  e : asL x O = some ws
instance {O : Oh} {ds : List PyData} {ws : List W} [m : MapD ds ws] : AsL (.d (.list ds)) O ws := ⟨by rw [← m.e]; rfl⟩
instance {O : Oh} {j : Nat} {ws : List W} [g : Cl O j (.lst ws)] : AsL (.c j) O ws := ⟨by unfold asL; dsimp only; rw [g.e]⟩
class AsS (x : W) (O : Oh) (ws : outParam (List W)) : Prop where
  e : asS x O = some ws
instance {O : Oh} {ds : List PyData} {ws : List W} [m : MapD ds ws] : AsS (.d (.list ds)) O ws := ⟨by rw [← m.e]; rfl⟩
instance {O : Oh} {ds : List PyData} {ws : List W} [m : MapD ds ws] : AsS (.d (.tuple ds)) O ws := ⟨by rw [← m.e]; rfl⟩
instance {O : Oh} {ds : List PyData} {ws : List W} [m : MapD ds ws] : AsS (.p ds) O ws := ⟨by rw [← m.e]; rfl⟩
instance {O : Oh} {j : Nat} {ws : List W} [g : Cl O j (.lst ws)] : AsS (.c j) O ws := ⟨by unfold asS; dsimp only; rw [g.e]⟩
instance {O : Oh} {ns : List Int} : AsS (.d (.dict [(.none, .list (ns.map PyData.int))])) O ((ns.map PyData.int).map W.d) := ⟨rfl⟩
class NoDk (x : W) (O : Oh) : Prop where
  e : asDk x O = none
instance {O : Oh} : NoDk (.d .none) O := ⟨rfl⟩
instance {O : Oh} {b : Bool} : NoDk (.d (.bool b)) O := ⟨rfl⟩
instance {O : Oh} {i : Int} : NoDk (.d (.int i)) O := ⟨rfl⟩
instance {O : Oh} {s : Str} : NoDk (.d (.str s)) O := ⟨rfl⟩
instance {O : Oh} {l : List PyData} : NoDk (.d (.list l)) O := ⟨rfl⟩
instance {O : Oh} {l : List PyData} : NoDk (.d (.tuple l)) O := ⟨rfl⟩
instance {O : Oh} {l : PyData} : NoDk (.d (.dict [(.none, l)])) O := ⟨rfl⟩
instance {O : Oh} {ds : List PyData} : NoDk (.p ds) O := ⟨rfl⟩
instance {O : Oh} {j : Nat} {ws : List W} [g : Cl O j (.lst ws)] : NoDk (.c j) O := ⟨by unfold asDk; dsimp only; rw [g.e]⟩
class IsDk (x : W) (O : Oh) (kvs : outParam (List (Key × W))) : Prop where
  e : asDk x O = some kvs
instance {O : Oh} {j : Nat} {kvs : List (Key × W)} [g : Cl O j (.dic kvs)] : IsDk (.c j) O kvs := ⟨by unfold asDk; dsimp only; rw [g.e]⟩
instance {O : Oh} {j : Nat} {od : Obj} {es : List (Key × V)} {kvs : List (Key × W)} [g : Cl O j (.ldic od es kvs)] : IsDk (.c j) O kvs := ⟨by unfold asDk; dsimp only; rw [g.e]⟩
class NoDi (x : W) (O : Oh) : Prop where
  e : isDictW x O = false
instance {O : Oh} : NoDi (.d .none) O := ⟨rfl⟩
instance {O : Oh} {b : Bool} : NoDi (.d (.bool b)) O := ⟨rfl⟩
instance {O : Oh} {i : Int} : NoDi (.d (.int i)) O := ⟨rfl⟩
instance {O : Oh} {s : Str} : NoDi (.d (.str s)) O := ⟨rfl⟩
instance {O : Oh} {l : List PyData} : NoDi (.d (.list l)) O := ⟨rfl⟩
instance {O : Oh} {l : List PyData} : NoDi (.d (.tuple l)) O := ⟨rfl⟩
instance {O : Oh} {l : PyData} : NoDi (.d (.dict [(.none, l)])) O := ⟨rfl⟩
instance {O : Oh} {ds : List PyData} : NoDi (.p ds) O := ⟨rfl⟩
instance {O : Oh} {j : Nat} {ws : List W} [g : Cl O j (.lst ws)] : NoDi (.c j) O := ⟨by unfold isDictW asDk asDt; dsimp only; rw [g.e]; rfl⟩
/-- a list, not of literal shape, is the answer -/
theorem sl_own {x : W} {O : Oh} {ws : List W} {ds : List PyData} {lo hi : Option Int} {R : DK} {j : Nat} [g : Cl O j (.lst ws)] [d : Dats ws ds] (h : R (.d (.list (cutL ds lo hi))) O) : dSl (.c j) lo hi O R := by
  have e : asL (.c j) O = some ws := by unfold asL; dsimp only; rw [g.e]
  unfold dSl
  dsimp only
  rw [e]
  dsimp only
  rw [d.e]
  exact h
instance {O : Oh} {ws : List W} {ds : List PyData} {lo hi : Option Int} {R : DK} {j : Nat} [g : Cl O j (.lst ws)] [d : Dats ws ds] : Go (dSl (.c j) lo hi O R) (R (.d (.list (cutL ds lo hi))) O) := ⟨sl_own (x := .c j)⟩
def kRevL (R : DK) : DK := fun x O => match asL x O with
  | some ws => (match datas ws with
    | some ds => R (.d (.list ds.reverse)) O
    | none => False)
  | none => False
instance {R : DK} {Γ : Gm} {O : Oh} {xe : DX} {w : DEx} : Go (dRevL w Γ O R xe) (w Γ O (kRevL R) xe) := ⟨fun h => h⟩
instance {R : DK} {O : Oh} {x : W} {ws : List W} {ds : List PyData} [a : AsL x O ws] [d : Dats ws ds] : Go (kRevL R x O) (R (.d (.list ds.reverse)) O) := ⟨fun h => by unfold kRevL; rw [a.e]; dsimp only; rw [d.e]; exact h⟩
/-! #### subscripts -/
theorem ix2_of {x : W} {O : Oh} {ws : List W} {i : Int} {w : W} {R : DK} [n : NoDi x O] [a : AsS x O ws] (hi : atI ws i = some w) (h : R w O) : dIx2 x (.d (.int i)) O R := by
  unfold dIx2
  rw [if_neg (by rw [n.e]; exact Bool.false_ne_true)]
  unfold dIx
  split
  · have := a.e; cases this
  · next e1 e2 =>
    cases e2
    rw [a.e]
    dsimp only
    rw [hi]
    exact h
  · next h1 _ => exact (h1 _ rfl).elim
theorem atI_nat {α : Type} {ws : List α} {m : Nat} {w : α} (h : ws[m]? = some w) : atI ws (m : Nat) = some w := by
  have hl := (List.getElem?_eq_some_iff.mp h).1
  unfold atI ixN
  simp [hl]
  exact (List.getElem?_eq_some_iff.mp h).2
/-! #### operators -/
instance {R : DK} {O : Oh} {i j : Int} {g : Int → Int → PyData} : Go (dI20 g (.d (.int i)) (.d (.int j)) O R) (R (.d (g i j)) O) := ⟨fun h => h⟩
instance {R : DK} {O : Oh} {i j : Int} {C : Int → Int → Prop} {g : Int → Int → PyData} : Go (dI2 C g (.d (.int i)) (.d (.int j)) O R) (C i j ∧ R (.d (g i j)) O) := ⟨fun h => h⟩
instance {R : DK} {O : Oh} {i j : Int} : Go (dAdd (.d (.int i)) (.d (.int j)) O R) (R (.d (.int (i + j))) O) := ⟨fun h => h⟩
instance {R : DK} {O : Oh} {i j : Int} : Go (dLt2 (.d (.int i)) (.d (.int j)) O R) (R (.d (.bool (decide (i < j)))) O) := ⟨fun h => h⟩
instance {R : DK} {O : Oh} {i j : Int} : Go (dGt2 (.d (.int i)) (.d (.int j)) O R) (R (.d (.bool (decide (j < i)))) O) := ⟨fun h => h⟩
theorem dcase {R : Bool → Oh → Prop} {O : Oh} {p : Prop} [i : Decidable p] (h1 : p → R true O) (h2 : ¬ p → R false O) : R (decide p) O := by
  by_cases z : p
  · rw [decide_eq_true z]; exact h1 z
  · rw [decide_eq_false z]; exact h2 z
instance {O : Oh} {R : DK} {i j : Int} : Go (dEq (.d (.int i)) (.d (.int j)) O R) (R (.d (.bool (decide (i = j)))) O) := ⟨fun h => ⟨rfl, rfl, by
  have e : PyData.eqv (.int i) (.int j) = decide (i = j) := by simp [PyData.eqv]; rfl
  rw [e]; exact h⟩⟩
instance {O : Oh} {R : DK} {i j : Int} : Go (dNe (.d (.int i)) (.d (.int j)) O R) (R (.d (.bool (decide (i ≠ j)))) O) := ⟨fun h => ⟨rfl, rfl, by
  rw [decide_not] at h
  have e : PyData.eqv (.int i) (.int j) = decide (i = j) := by simp [PyData.eqv]; rfl
  rw [e]; exact h⟩⟩
theorem eqv_str (a b : Str) : PyData.eqv (.str a) (.str b) = decide (a = b) := by
  unfold PyData.eqv
  by_cases z : a = b
  · subst z; simp
  · simp [z]
instance {O : Oh} {R : DK} {i j : Str} : Go (dEq (.d (.str i)) (.d (.str j)) O R) (R (.d (.bool (decide (i = j)))) O) := ⟨fun h => ⟨rfl, rfl, by
  rw [eqv_str]; exact h⟩⟩
instance {O : Oh} {R : DK} {i j : Str} : Go (dNe (.d (.str i)) (.d (.str j)) O R) (R (.d (.bool (decide (i ≠ j)))) O) := ⟨fun h => ⟨rfl, rfl, by
  rw [decide_not] at h
  rw [eqv_str]; exact h⟩⟩
instance {O : Oh} {R : DK} {i j : Int} : Go (dMax [.d (.int i), .d (.int j)] O R) (R (.d (.int (if j > i then j else i))) O) := ⟨fun h => h⟩
instance {O : Oh} {R : DK} {i j : Int} : Go (dMin [.d (.int i), .d (.int j)] O R) (R (.d (.int (if j < i then j else i))) O) := ⟨fun h => h⟩
instance {O : Oh} {R : DK} {i : Int} : Go (dAbs [.d (.int i)] O R) (R (.d (.int (if i < 0 then -i else i))) O) := ⟨fun h => h⟩
class NStr (x : W) : Prop where
  e : ∀ s, x ≠ .d (.str s)
instance {l : List PyData} : NStr (.d (.list l)) := ⟨fun s h => by cases h⟩
instance {l : List PyData} : NStr (.d (.tuple l)) := ⟨fun s h => by cases h⟩
instance {l : List (PyData × PyData)} : NStr (.d (.dict l)) := ⟨fun s h => by cases h⟩
instance {j : Nat} : NStr (.c j) := ⟨fun s h => by cases h⟩
theorem go_len {O : Oh} {R : DK} {x : W} {ws : List W} [n : NStr x] [a : AsS x O ws] (h : R (.d (.int (ws.length : Nat))) O) : dLen [x] O R := by
  unfold dLen
  split
  · next e => cases e; exact (n.e _ rfl).elim
  · next e => cases e; rw [a.e]; exact h
  · next h1 h2 => exact (h2 _ rfl).elim
instance {O : Oh} {R : DK} {x : W} {ws : List W} [n : NStr x] [a : AsS x O ws] : Go (dLen [x] O R) (R (.d (.int (ws.length : Nat))) O) := ⟨go_len⟩
theorem go_tupOf {O : Oh} {R : DK} {x : W} {ws : List W} {ds : List PyData} [a : AsL x O ws] [d : Dats ws ds] (h : R (.d (.tuple ds)) O) : dTupOf [x] O R := by
  unfold dTupOf
  split
  · next e => cases e; have := a.e; cases this
  · next e => cases e; rw [a.e]; dsimp only; rw [d.e]; exact h
  · next h1 h2 => exact (h2 _ rfl).elim
instance {O : Oh} {R : DK} {x : W} {ws : List W} {ds : List PyData} [a : AsL x O ws] [d : Dats ws ds] : Go (dTupOf [x] O R) (R (.d (.tuple ds)) O) := ⟨go_tupOf⟩
instance {O : Oh} {R : DK} {ds : List PyData} : Go (dTupOf [.d (.tuple ds)] O R) (R (.d (.tuple ds)) O) := ⟨fun h => h⟩
instance {O : Oh} {R : DK} {x : W} {ws : List W} {ds : List PyData} [n : NoDk x O] [a : AsS x O ws] [d : Dats ws ds] : Go (dListOf2 [x] O R) (R (.d (.list ds)) O) := ⟨fun h => by
  unfold dListOf2; dsimp only; rw [n.e]; dsimp only; unfold dListOf; dsimp only; rw [a.e]; dsimp only; rw [d.e]; exact h⟩
theorem go_listC {O O' : Oh} {R : DK} {x : W} {ws : List W} {j : Nat} [k : NoDk x O] [a : AsS x O ws] [n : Nw O (.lst ws) j O'] (h : R (.c j) O') : dListC2 [x] O R := by
  unfold dListC2; dsimp only; rw [k.e]; dsimp only; unfold dListC; dsimp only; rw [a.e]; dsimp only; rw [n.e.1, n.e.2]; exact h
instance {O O' : Oh} {R : DK} {x : W} {ws : List W} {j : Nat} [k : NoDk x O] [a : AsS x O ws] [n : Nw O (.lst ws) j O'] : Go (dListC2 [x] O R) (R (.c j) O') := ⟨go_listC⟩
/-! #### methods -/
def kBM2 (f : DM) (x : W) (R : DK) : List W → Oh → Prop := fun xs O => f x xs O R
def kBM1 (tw : W → Oh → Bool) (f : DM) (ws : DA) (Γ : Gm) (R : DK) (xe : DX) : DK := fun x O => tw x O = true ∧ ws Γ O (kBM2 f x R) xe
instance {R : DK} {Γ : Gm} {O : Oh} {xe : DX} {tw : W → Oh → Bool} {f : DM} {wo : DEx} {ws : DA} : Go (dBM tw f wo ws Γ O R xe) (wo Γ O (kBM1 tw f ws Γ R xe) xe) := ⟨fun h => h⟩
class Tw (tw : W → Oh → Bool) (x : W) (O : Oh) : Prop where
  e : tw x O = true
instance {O : Oh} {j : Nat} {ws : List W} [g : Cl O j (.lst ws)] : Tw isLstW (.c j) O := ⟨by unfold isLstW; dsimp only; rw [g.e]⟩
instance {O : Oh} {ds : List PyData} : Tw isLstW (.d (.list ds)) O := ⟨rfl⟩
instance {O : Oh} {s : Str} : Tw isStrW (.d (.str s)) O := ⟨rfl⟩
instance {O : Oh} {j : Nat} {ws : List (Key × W)} [g : Cl O j (.dic ws)] : Tw isDicW (.c j) O := ⟨by unfold isDicW; dsimp only; rw [g.e]⟩
instance {O : Oh} {j : Nat} {ws : List (List Key × W)} [g : Cl O j (.dct ws)] : Tw isDicW (.c j) O := ⟨by unfold isDicW; dsimp only; rw [g.e]⟩
instance {R : DK} {Γ : Gm} {O : Oh} {xe : DX} {tw : W → Oh → Bool} {f : DM} {ws : DA} {x : W} [t : Tw tw x O] : Go (kBM1 tw f ws Γ R xe x O) (ws Γ O (kBM2 f x R) xe) := ⟨fun h => ⟨t.e, h⟩⟩
instance {R : DK} {O : Oh} {f : DM} {x : W} {xs : List W} : Go (kBM2 f x R xs O) (f x xs O R) := ⟨fun h => h⟩
theorem go_append {O O' : Oh} {R : DK} {j : Nat} {y : W} {ws ws' : List W} [g : Cl O j (.lst ws)] (hz : ws.length < 1000000) (e : ws ++ [y] = ws') [s : St O j (.lst ws') O'] (h : R (.d .none) O') : dAppend (.c j) [y] O R := by
  unfold dAppend; dsimp only; rw [g.e]; dsimp only; rw [e, s.e]; exact ⟨hz, h⟩
theorem go_remove {O O' : Oh} {R : DK} {j m : Nat} {y : PyData} {ws ws' : List W} {ds : List PyData} [g : Cl O j (.lst ws)] [d : Dats ws ds] (fy : flatD y = true) (fd : ds.all flatD = true) (hf : firstD y ds = some m) (e : ws.eraseIdx m = ws') [s : St O j (.lst ws') O'] (h : R (.d .none) O') : dRemove (.c j) [.d y] O R := by
  unfold dRemove; dsimp only; rw [g.e]; dsimp only; rw [d.e]; dsimp only; rw [hf]; dsimp only; rw [e, s.e]; exact ⟨fy, fd, h⟩
theorem go_indexL {O : Oh} {R : DK} {m : Nat} {x : W} {y : PyData} {ws : List W} {ds : List PyData} [g : AsL x O ws] [d : Dats ws ds] (fy : flatD y = true) (fd : ds.all flatD = true) (hf : firstD y ds = some m) (h : R (.d (.int (m : Nat))) O) : dIndexL x [.d y] O R := by
  unfold dIndexL; dsimp only; rw [g.e]; dsimp only; rw [d.e]; dsimp only; rw [hf]; exact ⟨fy, fd, h⟩
theorem go_popAt {O O' : Oh} {R : DK} {j m : Nat} {i : Int} {y : W} {ws ws' : List W} [g : Cl O j (.lst ws)] (hz : ws.length ≤ 1000000) (hi : ixN ws.length i = some m) (hy : ws[m]? = some y) (e : ws.eraseIdx m = ws') [s : St O j (.lst ws') O'] (h : R y O') : dPopAt (.c j) [.d (.int i)] O R := by
  unfold dPopAt; dsimp only; rw [g.e]; dsimp only; rw [hi]; dsimp only; rw [hy]; dsimp only; rw [e, s.e]; exact ⟨hz, h⟩
def kTM2 (f : DM) (x : W) (R : DK) : List W → Oh → Prop := fun xs O => f x xs O R
def kTM1 (f : DM) (ws : DA) (Γ : Gm) (R : DK) (xe : DX) : DK := fun o O => match o with
  | .d (.tuple ds) => ws Γ O (kTM2 f (.d (.tuple ds)) R) xe
  | _ => False
instance {R : DK} {Γ : Gm} {O : Oh} {xe : DX} {f : DM} {wo : DEx} {ws : DA} : Go (dTM f wo ws Γ O R xe) (wo Γ O (kTM1 f ws Γ R xe) xe) := ⟨fun h => h⟩
instance {R : DK} {Γ : Gm} {O : Oh} {xe : DX} {f : DM} {ws : DA} {ds : List PyData} : Go (kTM1 f ws Γ R xe (.d (.tuple ds)) O) (ws Γ O (kTM2 f (.d (.tuple ds)) R) xe) := ⟨fun h => h⟩
instance {R : DK} {O : Oh} {f : DM} {x : W} {xs : List W} : Go (kTM2 f x R xs O) (f x xs O R) := ⟨fun h => h⟩
theorem go_indexT {O : Oh} {R : DK} {xs : List Str} {z : Str} {j : Nat} (hj : xs.findIdx? (· == z) = some j) (h : R (.d (.int (j : Nat))) O) : dIndexT (.d (.tuple (xs.map PyData.str))) [.d (.str z)] O R := by
  unfold dIndexT; dsimp only; rw [strsD_map]; dsimp only; rw [hj]; exact h
/-! #### .. is None, -set -/
instance {O : Oh} {R : DK} {neg : Bool} {x : W} : Go (dIs2 neg x (.d .none) O R) (R (.d (.bool (if neg then !isNone x else isNone x))) O) := ⟨fun h => h⟩
instance {O : Oh} {R : DK} {neg a b : Bool} : Go (dIs2 neg (.d (.bool a)) (.d (.bool b)) O R) (R (.d (.bool (if neg then !decide (a = b) else decide (a = b)))) O) := ⟨fun h => h⟩
class StrsD (ds : List PyData) (xs : outParam (List Str)) : Prop where
  e : strsD ds = some xs
instance {xs : List Str} : StrsD (xs.map PyData.str) xs := ⟨strsD_map xs⟩
def kLenSet (R : DK) : DK := fun x O => match asL x O with
  | some ws => (match datas ws with
    | some ds => (match strsD ds with
      | some ys => ys.length ≤ 1000 ∧ R (.d (.int ((met ys).length : Nat))) O
      | none => False)
    | none => False)
  | none => False
instance {R : DK} {Γ : Gm} {O : Oh} {xe : DX} {w : DEx} : Go (dLenSet w Γ O R xe) (w Γ O (kLenSet R) xe) := ⟨fun h => h⟩
theorem go_lenSet {R : DK} {O : Oh} {x : W} {ws : List W} {ds : List PyData} {ys : List Str} [a : AsL x O ws] [d : Dats ws ds] [s : StrsD ds ys] (hz : ys.length ≤ 1000) (h : R (.d (.int ((met ys).length : Nat))) O) : kLenSet R x O := by unfold kLenSet; rw [a.e]; dsimp only; rw [d.e]; dsimp only; rw [s.e]; exact ⟨hz, h⟩
/-! #### chains -/
def kCh4 (f : D2) (y : W) (R : DK) : DK := fun w O => f y w O R
def kCh3 (f : D2) (wc : DEx) (y : W) (Γ : Gm) (R : DK) (xe : DX) : DK := fun z O => match z with
  | .d (.bool t) => if t = true then wc Γ O (kCh4 f y R) xe else R (.d (.bool false)) O
  | _ => False
def kCh2 (f f' : D2) (wc : DEx) (x : W) (Γ : Gm) (R : DK) (xe : DX) : DK := fun y O => f x y O (kCh3 f' wc y Γ R xe)
def kCh1 (f f' : D2) (wb wc : DEx) (Γ : Gm) (R : DK) (xe : DX) : DK := fun x O => wb Γ O (kCh2 f f' wc x Γ R xe) xe
instance {R : DK} {Γ : Gm} {O : Oh} {xe : DX} {f f' : D2} {wa wb wc : DEx} : Go (dChain f f' wa wb wc Γ O R xe) (wa Γ O (kCh1 f f' wb wc Γ R xe) xe) := ⟨fun h => h⟩
instance {R : DK} {Γ : Gm} {O : Oh} {xe : DX} {f f' : D2} {wb wc : DEx} {x : W} : Go (kCh1 f f' wb wc Γ R xe x O) (wb Γ O (kCh2 f f' wc x Γ R xe) xe) := ⟨fun h => h⟩
instance {R : DK} {Γ : Gm} {O : Oh} {xe : DX} {f f' : D2} {wc : DEx} {x y : W} : Go (kCh2 f f' wc x Γ R xe y O) (f x y O (kCh3 f' wc y Γ R xe)) := ⟨fun h => h⟩
instance {R : DK} {Γ : Gm} {O : Oh} {xe : DX} {f : D2} {wc : DEx} {y : W} : Go (kCh3 f wc y Γ R xe (.d (.bool true)) O) (wc Γ O (kCh4 f y R) xe) := ⟨fun h => by unfold kCh3; dsimp only; rw [if_pos rfl]; exact h⟩
instance {R : DK} {Γ : Gm} {O : Oh} {xe : DX} {f : D2} {wc : DEx} {y : W} : Go (kCh3 f wc y Γ R xe (.d (.bool false)) O) (R (.d (.bool false)) O) := ⟨fun h => by unfold kCh3; dsimp only; rw [if_neg Bool.false_ne_true]; exact h⟩
instance {R : DK} {O : Oh} {f : D2} {y w : W} : Go (kCh4 f y R w O) (f y w O R) := ⟨fun h => h⟩
/-! #### walks -/
def kSeqI (S : List W → (Oh → Prop) → Oh → Prop) : DK := fun r O1 => match r with
  | .d (.list ds) => S (ds.map W.d) (fun _ => True) O1
  | .d (.tuple ds) => S (ds.map W.d) (fun _ => True) O1
  | .c k => match O1[k]? with
    | some (.lst ws) => S ws (fun O => O[k]? = some (.lst ws)) O1
    | _ => False
  | _ => False
instance {S : List W → (Oh → Prop) → Oh → Prop} {Γ : Gm} {O : Oh} {xe : DX} {w : DEx} : Go (dSeqI w Γ O S xe) (w Γ O (kSeqI S) xe) := ⟨fun h => h⟩
instance {S : List W → (Oh → Prop) → Oh → Prop} {O : Oh} {ds : List PyData} : Go (kSeqI S (.d (.list ds)) O) (S (ds.map W.d) (fun _ => True) O) := ⟨fun h => h⟩
instance {S : List W → (Oh → Prop) → Oh → Prop} {O : Oh} {ds : List PyData} : Go (kSeqI S (.d (.tuple ds)) O) (S (ds.map W.d) (fun _ => True) O) := ⟨fun h => h⟩
instance {S : List W → (Oh → Prop) → Oh → Prop} {O : Oh} {k : Nat} {ws : List W} [g : Cl O k (.lst ws)] : Go (kSeqI S (.c k) O) (S ws (fun O => O[k]? = some (.lst ws)) O) := ⟨fun h => by unfold kSeqI; dsimp only; rw [g.e]; exact h⟩
def kRng (S : List W → (Oh → Prop) → Oh → Prop) : List W → Oh → Prop := fun vs O1 => match vs with
  | [.d (.int j)] => j < 4611686018427387904 ∧ -4611686018427387904 ≤ j ∧ S (rgW 0 j.toNat) (fun _ => True) O1
  | _ => False
instance {S : List W → (Oh → Prop) → Oh → Prop} {Γ : Gm} {O : Oh} {xe : DX} {ws : DA} : Go (dRng1 ws Γ O S xe) (ws Γ O (kRng S) xe) := ⟨fun h => h⟩
theorem go_rng {S : List W → (Oh → Prop) → Oh → Prop} {O : Oh} {n : Nat} (hn : n < 4611686018427387904) (h : S (rgW 0 n) (fun _ => True) O) : kRng S [.d (.int (n : Nat))] O := ⟨by omega, by omega, by rw [Int.toNat_natCast]; exact h⟩
def kEnum (S : List W → (Oh → Prop) → Oh → Prop) : List W → Oh → Prop := fun xs O1 => match xs with
  | [x] => (match asFz x with
    | some ds => S (enumW 0 ds) (fun _ => True) O1
    | none => False)
  | _ => False
instance {S : List W → (Oh → Prop) → Oh → Prop} {Γ : Gm} {O : Oh} {xe : DX} {ws : DA} : Go (dEnum ws Γ O S xe) (ws Γ O (kEnum S) xe) := ⟨fun h => h⟩
instance {S : List W → (Oh → Prop) → Oh → Prop} {O : Oh} {ds : List PyData} : Go (kEnum S [.d (.tuple ds)] O) (S (enumW 0 ds) (fun _ => True) O) := ⟨fun h => h⟩
instance {S : List W → (Oh → Prop) → Oh → Prop} {O : Oh} {ds : List PyData} : Go (kEnum S [.d (.list ds)] O) (S (enumW 0 ds) (fun _ => True) O) := ⟨fun h => h⟩
def kFor (t : Tg) (body : DSt) (D : DEnds) (xe : DX) (Γ : Gm) : List W → (Oh → Prop) → Oh → Prop := fun xs ok O1 => forGo ok t body D xe xs Γ O1
instance {f b c : Gm → Oh → Prop} {r : DK} {Γ : Gm} {O : Oh} {xe : DX} {w : DI} {t : Tg} {body : DSt} : Go (dFor w t body ⟨f, r, b, c⟩ xe Γ O) (w Γ O (kFor t body ⟨f, r, b, c⟩ xe Γ) xe) := ⟨fun h => h⟩
instance {Γ : Gm} {O : Oh} {xe : DX} {D : DEnds} {t : Tg} {body : DSt} {xs : List W} {ok : Oh → Prop} : Go (kFor t body D xe Γ xs ok O) (forGo ok t body D xe xs Γ O) := ⟨fun h => h⟩
def kLc (t : Tg) (tt : DT) (we : DEx) (Γ : Gm) (R : DK) : List W → (Oh → Prop) → Oh → Prop := fun xs ok O1 => lcGo ok t tt we Γ (fun acc O2 => R (.d (.list acc)) O2) xs [] O1
class Wipe (Γ : Gm) (own : List Nat) (Γ' : outParam Gm) : Prop where
  e : wipeG Γ own = Γ'
instance {Γ : Gm} : Wipe Γ [] Γ := ⟨rfl⟩
instance {Γ Γ1 Γ2 : Gm} {v : Nat} {vs : List Nat} [w : Wipe Γ vs Γ1] [p : Put Γ1 v none Γ2] : Wipe Γ (v :: vs) Γ2 := ⟨by show (wipeG Γ vs).set v none = _; rw [w.e, p.e]⟩
instance {R : DK} {Γ Γ' : Gm} {O : Oh} {xe : DX} {w : DI} {t : Tg} {tt : DT} {we : DEx} {own : List Nat} [z : Wipe Γ own Γ'] : Go (dLc w t tt we own Γ O R xe) (w Γ O (kLc t tt we Γ' R) xe) := ⟨fun h => by unfold dLc; rw [z.e]; exact h⟩
instance {R : DK} {Γ : Gm} {O : Oh} {t : Tg} {tt : DT} {we : DEx} {xs : List W} {ok : Oh → Prop} : Go (kLc t tt we Γ R xs ok O) (lcGo ok t tt we Γ (fun acc O2 => R (.d (.list acc)) O2) xs [] O) := ⟨fun h => h⟩
/-- a walk, by what stays so -/
theorem for_rule {f b c : Gm → Oh → Prop} {r : DK} {ok : Oh → Prop} {t : Tg} {body : DSt} {xe : DX} {xs : List W} {Γ : Gm} {O : Oh} (I : List W → Gm → Oh → Prop) (h : I xs Γ O)
    (h0 : ∀ Γ O, I [] Γ O → ok O ∧ f Γ O)
    (h1 : ∀ x q Γ O, I (x :: q) Γ O → ok O ∧ ∀ C : Gm → Oh → Prop, (∀ Γ' O', I q Γ' O' → C Γ' O') → t.put x Γ fun Γ1 => body ⟨C, r, f, C⟩ xe Γ1 O) : forGo ok t body ⟨f, r, b, c⟩ xe xs Γ O := by
  induction xs generalizing Γ O with
  | nil => exact h0 _ _ h
  | cons x q ih =>
    obtain ⟨a, k⟩ := h1 _ _ _ _ h
    exact ⟨a, k _ fun Γ' O' i => ih i⟩
def kLcT (we : DEx) (Γ : Gm) (C : DK) (N : Oh → Prop) : Bool → Oh → Prop := fun b O => if b = true then we Γ O C X0 else N O
instance {we : DEx} {Γ : Gm} {C : DK} {N : Oh → Prop} {O : Oh} : Go (kLcT we Γ C N true O) (we Γ O C X0) := ⟨fun h => by unfold kLcT; rw [if_pos rfl]; exact h⟩
instance {we : DEx} {Γ : Gm} {C : DK} {N : Oh → Prop} {O : Oh} : Go (kLcT we Γ C N false O) (N O) := ⟨fun h => by unfold kLcT; rw [if_neg Bool.false_ne_true]; exact h⟩
/-- a list that is made, by what stays so -/
theorem lc_rule {ok : Oh → Prop} {t : Tg} {tt : DT} {we : DEx} {Γ : Gm} {fin : List PyData → Oh → Prop} {xs : List W} {acc : List PyData} {O : Oh} (I : List W → List PyData → Oh → Prop) (h : I xs acc O)
    (h0 : ∀ acc O, I [] acc O → ok O ∧ fin acc O)
    (h1 : ∀ x q acc O, I (x :: q) acc O → ok O ∧ ∀ (C : DK) (N : Oh → Prop), (∀ z O', acc.length < 1000000 → I q (acc ++ [z]) O' → C (.d z) O') → (∀ O', I q acc O' → N O') →
      t.put x Γ fun Γ1 => tt Γ1 O (kLcT we Γ1 C N) X0) : lcGo ok t tt we Γ fin xs acc O := by
  induction xs generalizing acc O with
  | nil => exact h0 _ _ h
  | cons x q ih =>
    obtain ⟨a, k⟩ := h1 _ _ _ _ h
    refine ⟨a, k _ _ (fun z O' hz i => ?_) (fun O' i => ih i)⟩
    exact ⟨hz, ih i⟩
def kWh (body : DSt) (D : DEnds) (f : Gm → Oh → Prop) (xe : DX) (Γ : Gm) : Bool → Oh → Prop := fun b O => if b = true then body D xe Γ O else f Γ O
instance {body : DSt} {D : DEnds} {f : Gm → Oh → Prop} {xe : DX} {Γ : Gm} {O : Oh} : Go (kWh body D f xe Γ true O) (body D xe Γ O) := ⟨fun h => by unfold kWh; rw [if_pos rfl]; exact h⟩
instance {body : DSt} {D : DEnds} {f : Gm → Oh → Prop} {xe : DX} {Γ : Gm} {O : Oh} : Go (kWh body D f xe Γ false O) (f Γ O) := ⟨fun h => by unfold kWh; rw [if_neg Bool.false_ne_true]; exact h⟩
/-- while: so many rounds at most -/
theorem while_go {c : DT} {body : DSt} {f b k : Gm → Oh → Prop} {r : DK} {xe : DX} {Γ : Gm} {O : Oh} (I : Nat → Gm → Oh → Prop) {n : Nat} (h : I n Γ O)
    (hs : ∀ n Γ O, I n Γ O → ∀ C : Gm → Oh → Prop, (∀ m Γ' O', m + 1 = n → I m Γ' O' → C Γ' O') → c Γ O (kWh body ⟨C, r, f, C⟩ f xe Γ) xe) : dWhile c body ⟨f, r, b, k⟩ xe Γ O := by
  refine ⟨n + 1, ?_⟩
  induction n generalizing Γ O with
  | zero => exact hs 0 Γ O h _ fun m Γ' O' hm _ => by omega
  | succ n ih =>
    refine hs (n + 1) Γ O h _ fun m Γ' O' hm i => ?_
    have e : m = n := by omega
    subst e
    exact ih i
/-! #### refusals -/
def kRaiseF (nm : Str) (fs : List Str) (xe : DX) (Γ : Gm) : List W → Oh → Prop := fun vs O1 => match datas vs with
  | some ds => ds.length = fs.length ∧ xe ⟨nm, (fs.zip ds).reverse⟩ Γ O1
  | none => False
instance {Γ : Gm} {O : Oh} {xe : DX} {D : DEnds} {nm : Str} {fs : List Str} {ws : DA} : Go (dRaiseF nm fs ws D xe Γ O) (ws Γ O (kRaiseF nm fs xe Γ) xe) := ⟨fun h => h⟩
instance {Γ : Gm} {O : Oh} {xe : DX} {D : DEnds} {nm : Str} : Go (dRaise0 nm D xe Γ O) (xe ⟨nm, []⟩ Γ O) := ⟨fun h => h⟩
def kTry (subs : List (Str × Bool)) (suite : DSt) (D : DEnds) (xe : DX) : DX := fun ex Γ' O' => match subs.lookup ex.cls with
  | some true => suite D X0 Γ' O'
  | some false => xe ex Γ' O'
  | none => False
instance {Γ : Gm} {O : Oh} {xe : DX} {D : DEnds} {subs : List (Str × Bool)} {body suite : DSt} : Go (dTry subs body suite D xe Γ O) (body D (kTry subs suite D xe) Γ O) := ⟨fun h => h⟩
def kTryAs (subs : List (Str × Bool)) (i : Nat) (suite : Addr → Option Addr → DSt) (D : DEnds) (xe : DX) : DX := fun ex Γ' O' => match subs.lookup ex.cls with
  | some true => ∀ a d, suite a d { D with nx := fun Γ1 O1 => D.nx (Γ1.set i none) O1, bk := fun Γ1 O1 => D.bk (Γ1.set i none) O1, ct := fun Γ1 O1 => D.ct (Γ1.set i none) O1 } X0 (Γ'.set i (some (.o a d ex.fs))) O'
  | some false => xe ex Γ' O'
  | none => False
instance {Γ : Gm} {O : Oh} {xe : DX} {D : DEnds} {subs : List (Str × Bool)} {i : Nat} {body : DSt} {suite : Addr → Option Addr → DSt} : Go (dTryAs subs i body suite D xe Γ O) (body D (kTryAs subs i suite D xe) Γ O) := ⟨fun h => h⟩
def kXf (a : Addr) (d : Option Addr) (f : Str) (R : DK) : DK := fun x O1 => match x with
  | .o b d' fs => b = a ∧ d' = d ∧ (match fs.lookup f with
    | some y => R (.d y) O1
    | none => False)
  | _ => False
instance {R : DK} {Γ : Gm} {O : Oh} {xe : DX} {a : Addr} {d : Option Addr} {f : Str} {w : DEx} : Go (dXf a d f w Γ O R xe) (w Γ O (kXf a d f R) xe) := ⟨fun h => h⟩
def kSet3 (o v : W) (f : Gm → Oh → Prop) (Γ : Gm) : DK := fun i O => dPutIx o i v O fun O4 => f Γ O4
def kSet2 (wi : DEx) (v : W) (f : Gm → Oh → Prop) (Γ : Gm) (xe : DX) : DK := fun o O => wi Γ O (kSet3 o v f Γ) xe
def kSet1 (wo wi : DEx) (f : Gm → Oh → Prop) (Γ : Gm) (xe : DX) : DK := fun v O => wo Γ O (kSet2 wi v f Γ xe) xe
instance {f b c : Gm → Oh → Prop} {r : DK} {Γ : Gm} {O : Oh} {xe : DX} {wo wi we : DEx} : Go (dSetI wo wi we ⟨f, r, b, c⟩ xe Γ O) (we Γ O (kSet1 wo wi f Γ xe) xe) := ⟨fun h => h⟩
instance {f : Gm → Oh → Prop} {Γ : Gm} {O : Oh} {xe : DX} {wo wi : DEx} {v : W} : Go (kSet1 wo wi f Γ xe v O) (wo Γ O (kSet2 wi v f Γ xe) xe) := ⟨fun h => h⟩
instance {f : Gm → Oh → Prop} {Γ : Gm} {O : Oh} {xe : DX} {wi : DEx} {v o : W} : Go (kSet2 wi v f Γ xe o O) (wi Γ O (kSet3 o v f Γ) xe) := ⟨fun h => h⟩
instance {f : Gm → Oh → Prop} {Γ : Gm} {O : Oh} {o v i : W} : Go (kSet3 o v f Γ i O) (dPutIx o i v O fun O4 => f Γ O4) := ⟨fun h => h⟩
theorem putix_key {O O' : Oh} {j : Nat} {kvs : List (Key × W)} {s : Str} {v : W} {k : Oh → Prop} [g : Cl O j (.dic kvs)] (hz : kvs.length < 1000000) [t : St O j (.dic (putW kvs (.inr s) v)) O'] (h : k O') : dPutIx (.c j) (.d (.str s)) v O k := by
  unfold dPutIx; dsimp only; rw [g.e]; refine ⟨hz, ?_⟩; rw [t.e]; exact h
theorem putix_lst {O : Oh} {j m : Nat} {n : Int} {ws : List W} {v : W} {k : Oh → Prop} [g : Cl O j (.lst ws)] (hi : ixN ws.length n = some m) (h : k (O.set j (.lst (ws.set m v)))) : dPutIx (.c j) (.d (.int n)) v O k := by
  unfold dPutIx; dsimp only; rw [g.e]; dsimp only; rw [hi]; exact h
/-! #### in -/
theorem in_of {neg : Bool} {x y : W} {d e : PyData} {ds : List PyData} {O : Oh} {R : DK} (n : NoDi y O) (hs : ∀ s, y ≠ .d (.str s)) (hx : asD x O = some d) (hy : asD y O = some e) (he : seqD e = some ds) (s1 : shp 40 d = true) (s2 : shp 40 e = true)
    (h : R (.d (.bool (if neg then !(ds.any fun z => PyData.eqv z d) else ds.any fun z => PyData.eqv z d))) O) : dIn2 neg x y O R := by
  unfold dIn2
  rw [if_neg (by rw [n.e]; exact Bool.false_ne_true)]
  split
  · next s => exact (hs _ rfl).elim
  · rw [hx, hy]; dsimp only; rw [he]; exact ⟨s1, s2, h⟩
end Dl
namespace Dl
open PySem PySem.Spec PyProof.Rows L2
def w_names_of : DFn := dDefC 4 1 (
  (dSeq (dAsg dDicK (.nm 1))
  (dSeq (dFor (dSeqI (dVar 0)) (.nm 2)
   (dFor (dSeqI (dVar 2)) (.nm 3)
    (dSetI (dVar 1) (dVar 3) (dC (.bool true)))))
  (dRet (dCB dListC2 (dCons (dVar 1) dNil))))))
def w_wish_against : DFn := dDef 7 3 (
  (dSeq (dFor (dEnum (dCons (dVar 0) dNil)) (.tup [(.nm 3), (.nm 4)])
   (dIf (dB (dOp (dIn2 false) (dVar 2) (dVar 4)))
    (dSeq (dAsg (dLc (dSeqI (dSlice (dVar 4) dO0 (dO1 (dTM dIndexT (dVar 4) (dCons (dVar 2) dNil))))) (.nm 6) (dB (dOp (dIn2 false) (dVar 6) (dVar 1))) (dVar 6) [6]) (.nm 5))
    (dIf (dB (dOp dNe (dVar 5) (dLst dNil)))
     (dRet (dTup (dCons (dVar 3) (dCons (dOp dIx2 (dVar 5) (dC (.int 0))) (dCons (dVar 2) dNil)))))
     dNext))
    dNext))
  (dRet (dC .none))))
def w_ring_among : DFn := dDef 6 2 (
  (dSeq (dAsg (dLstC (dCons (dOp dIx2 (dVar 1) (dC (.int 0))) dNil)) (.nm 2))
  (dSeq (dAsg (dLstC dNil) (.nm 3))
  (dSeq (dWhile (dB (dOp dEq (dLenSet (dVar 2)) (dCB dLen (dCons (dVar 2) dNil))))
   (dSeq (dAsg (dCall0 w_wish_against (dCons (dVar 0) (dCons (dVar 1) (dCons (dOp dIx2 (dVar 2) (dNeg (dC (.int 1)))) dNil)))) (.nm 5))
   (dSeq (dDrop (dBM isLstW dAppend (dVar 3) (dCons (dVar 5) dNil)))
   (dDrop (dBM isLstW dAppend (dVar 2) (dCons (dOp dIx2 (dVar 5) (dC (.int 1))) dNil))))))
  (dSeq (dAsg (dBM isLstW dIndexL (dVar 2) (dCons (dOp dIx2 (dVar 2) (dNeg (dC (.int 1)))) dNil)) (.nm 4))
  (dRet (dCB dTupOf (dCons (dRevL (dSlice (dVar 3) (dO1 (dVar 4)) dO0)) dNil))))))))
def w_merged : DFn := dDef 5 1 (
  (dSeq (dAsg (dCall0 w_names_of (dCons (dVar 0) dNil)) (.nm 1))
  (dSeq (dAsg (dLstC dNil) (.nm 2))
  (dSeq (dWhile (dB (dOp dNe (dVar 1) (dLst dNil)))
   (dSeq (dAsg (dLc (dSeqI (dVar 1)) (.nm 4) (dB (dOp (dIs2 false) (dCall0 w_wish_against (dCons (dVar 0) (dCons (dVar 1) (dCons (dVar 4) dNil)))) (dC .none))) (dVar 4) [4]) (.nm 3))
   (dSeq (dIf (dB (dOp dEq (dVar 3) (dLst dNil)))
    (dRaiseF "Ring" ["kind", "ring"] (dCons (dC .none) (dCons (dCall0 w_ring_among (dCons (dVar 0) (dCons (dVar 1) dNil))) dNil)))
    dNext)
   (dSeq (dDrop (dBM isLstW dAppend (dVar 2) (dCons (dOp dIx2 (dVar 3) (dC (.int 0))) dNil)))
   (dDrop (dBM isLstW dRemove (dVar 1) (dCons (dOp dIx2 (dVar 3) (dC (.int 0))) dNil)))))))
  (dRet (dCB dTupOf (dCons (dVar 2) dNil)))))))
def w__law_pot : DFn := dDefC 3 2 (
  (dSeq (dAsg (dC (.int 0)) (.nm 2))
  (dSeq (dIf (dB (dOp dLt2 (dVar 1) (dCB dLen (dCons (dVar 0) dNil))))
   (dAsg (dOp dIx2 (dVar 0) (dVar 1)) (.nm 2))
   dNext)
  (dRet (dLstC (dCons (dCB dMax (dCons (dC (.int 0)) (dCons (dOp dSub (dCB dAbs (dCons (dVar 2) dNil)) (dOp dPow (dC (.int 10)) (dC (.int 18)))) dNil))) (dCons (dOp dAdd (dOp dAdd (dOp dMod (dCB dAbs (dCons (dVar 2) dNil)) (dC (.int 2147483587))) (dOp dMul (dC (.int 101)) (dVar 1))) (dC (.int 3))) dNil)))))))
def w__law_digit : DFn := dDef 3 2 (
  (dSeq (dIf (dB (dOp dGt2 (dOp dIx2 (dVar 0) (dC (.int 0))) (dC (.int 0))))
   (dSeq (dAsg (dOp dMod (dOp dIx2 (dVar 0) (dC (.int 0))) (dVar 1)) (.nm 2))
   (dSeq (dSetI (dVar 0) (dC (.int 0)) (dOp dDiv (dOp dIx2 (dVar 0) (dC (.int 0))) (dVar 1)))
   (dRet (dVar 2))))
   dNext)
  (dSeq (dSetI (dVar 0) (dC (.int 1)) (dOp dMod (dOp dAdd (dOp dMul (dOp dIx2 (dVar 0) (dC (.int 1))) (dC (.int 39373))) (dC (.int 20011))) (dC (.int 2147483647))))
  (dRet (dOp dMod (dOp dDiv (dOp dMod (dOp dMul (dOp dIx2 (dVar 0) (dC (.int 1))) (dOp dIx2 (dVar 0) (dC (.int 1)))) (dC (.int 2147483563))) (dC (.int 11))) (dVar 1))))))
def w__law_names : DFn := dDef 10 2 (
  (dSeq (dAsg (dC (.str "abcdefghijklmnopqrstuvwxyz")) (.nm 2))
  (dSeq (dAsg (dLstC dNil) (.nm 3))
  (dSeq (dFor (dRng1 (dCons (dVar 1) dNil)) (.nm 4)
   (dSeq (dAsg (dOp dAdd (dC (.int 1)) (dCall0 w__law_digit (dCons (dVar 0) (dCons (dOp dIx2 (dLst (dCons (dC (.int 1)) (dCons (dC (.int 2)) (dCons (dC (.int 8)) dNil)))) (dCall0 w__law_digit (dCons (dVar 0) (dCons (dC (.int 3)) dNil)))) dNil)))) (.nm 5))
   (dSeq (dAsg (dJoin (dC (.str "")) (dLc (dRng1 (dCons (dVar 5) dNil)) (.nm 8) dYes (dOp dIx2 (dVar 2) (dCall0 w__law_digit (dCons (dVar 0) (dCons (dC (.int 26)) dNil)))) [8])) (.nm 6))
   (dSeq (dIf (dB (dOp (dIn2 false) (dVar 6) (dVar 3)))
    (dSeq (dAsg (dLc (dRng1 (dCons (dOp dAdd (dVar 1) (dC (.int 1))) dNil)) (.nm 8) dYes (dOp dAdd (dOp dAdd (dSlice (dVar 6) dO0 (dO1 (dC (.int 6)))) (dOp dIx2 (dVar 2) (dVar 8))) (dC (.str "q"))) [8]) (.nm 7))
    (dAsg (dOp dIx2 (dLc (dSeqI (dVar 7)) (.nm 9) (dB (dOp (dIn2 true) (dVar 9) (dVar 3))) (dVar 9) [9]) (dC (.int 0))) (.nm 6)))
    dNext)
   (dDrop (dBM isLstW dAppend (dVar 3) (dCons (dVar 6) dNil)))))))
  (dRet (dVar 3))))))
def w__law_shuffled : DFn := dDef 5 2 (
  (dSeq (dAsg (dCB dListC2 (dCons (dVar 1) dNil)) (.nm 2))
  (dSeq (dAsg (dLstC dNil) (.nm 3))
  (dSeq (dFor (dRng1 (dCons (dCB dLen (dCons (dVar 1) dNil)) dNil)) (.nm 4)
   (dDrop (dBM isLstW dAppend (dVar 3) (dCons (dBM isLstW dPopAt (dVar 2) (dCons (dCall0 w__law_digit (dCons (dVar 0) (dCons (dCB dLen (dCons (dVar 2) dNil)) dNil))) dNil)) dNil))))
  (dRet (dVar 3))))))
def w__law_rows : DFn := dDef 12 3 (
  (dSeq (dPar 6 7 (dCons (dCall0 w__law_digit (dCons (dVar 0) (dCons (dC (.int 3)) dNil))) (dCons (dCall0 w__law_digit (dCons (dVar 0) (dCons (dOp dAdd (dVar 2) (dC (.int 1))) dNil))) dNil)))
  (dSeq (dAsg (dCall0 w__law_shuffled (dCons (dVar 0) (dCons (dCall0 w__law_names (dCons (dVar 0) (dCons (dCall0 w__law_digit (dCons (dVar 0) (dCons (dOp dAdd (dVar 1) (dC (.int 1))) dNil))) dNil))) dNil))) (.nm 3))
  (dSeq (dAsg (dLstC dNil) (.nm 4))
  (dSeq (dFor (dRng1 (dCons (dVar 7) dNil)) (.nm 5)
   (dSeq (dAsg (dCB dListOf2 (dCons (dVar 3) dNil)) (.nm 8))
   (dSeq (dIf (dB (dOp dEq (dVar 6) (dC (.int 0))))
    (dAsg (dCall0 w__law_shuffled (dCons (dVar 0) (dCons (dVar 3) dNil))) (.nm 8))
    dNext)
   (dSeq (dAsg (dLc (dSeqI (dVar 8)) (.nm 11) (dB (dOp dGt2 (dCall0 w__law_digit (dCons (dVar 0) (dCons (dC (.int 3)) dNil))) (dC (.int 0)))) (dVar 11) [11]) (.nm 9))
   (dSeq (dIf (dAnd (dB (dOp dEq (dVar 6) (dC (.int 1)))) (dAnd (dB (dOp dGt2 (dCB dLen (dCons (dVar 9) dNil)) (dC (.int 1)))) (dB (dOp dEq (dCall0 w__law_digit (dCons (dVar 0) (dCons (dC (.int 3)) dNil))) (dC (.int 0))))))
    (dSeq (dAsg (dCall0 w__law_digit (dCons (dVar 0) (dCons (dOp dSub (dCB dLen (dCons (dVar 9) dNil)) (dC (.int 1))) dNil))) (.nm 10))
    (dAsg (dOp dAdd (dOp dAdd (dSlice (dVar 9) dO0 (dO1 (dVar 10))) (dLst (dCons (dOp dIx2 (dVar 9) (dOp dAdd (dVar 10) (dC (.int 1)))) (dCons (dOp dIx2 (dVar 9) (dVar 10)) dNil)))) (dSlice (dVar 9) (dO1 (dOp dAdd (dVar 10) (dC (.int 2)))) dO0)) (.nm 9)))
    dNext)
   (dDrop (dBM isLstW dAppend (dVar 4) (dCons (dCB dTupOf (dCons (dVar 9) dNil)) dNil))))))))
  (dRet (dCB dTupOf (dCons (dVar 4) dNil))))))))
end Dl
/-! ### rows of texts -/
namespace Dl
open PySem PySem.Spec PyProof.Rows L2
abbrev sD (xs : List Str) : List PyData := xs.map PyData.str
abbrev tS (xs : List Str) : PyData := .tuple (sD xs)
abbrev lS (xs : List Str) : PyData := .list (sD xs)
abbrev tR (rs : List (List Str)) : PyData := .tuple (rs.map tS)
theorem eqvAll_map {α : Type} [DecidableEq α] {en : α → PyData} (h : ∀ a b, PyData.eqv (en a) (en b) = decide (a = b)) (xs ys : List α) : PyData.eqvAll (xs.map en) (ys.map en) = decide (xs = ys) := by
  induction xs generalizing ys with
  | nil => cases ys <;> simp [PyData.eqvAll]
  | cons x r ih =>
    cases ys with
    | nil => simp [PyData.eqvAll]
    | cons y t =>
      simp only [List.map_cons, PyData.eqvAll, h, ih]
      by_cases a : x = y <;> by_cases b : r = t <;> simp [a, b]
theorem eqv_lmap {α : Type} [DecidableEq α] {en : α → PyData} (h : ∀ a b, PyData.eqv (en a) (en b) = decide (a = b)) (xs ys : List α) : PyData.eqv (.list (xs.map en)) (.list (ys.map en)) = decide (xs = ys) := by
  rw [← eqvAll_map h]; simp only [PyData.eqv]
theorem eqv_lS (xs ys : List Str) : PyData.eqv (lS xs) (lS ys) = decide (xs = ys) := eqv_lmap eqv_str xs ys
theorem shp_sD (n : Nat) (xs : List Str) : (sD xs).all (shp n) = true := by
  rw [List.all_eq_true]
  intro d hd
  obtain ⟨s, _, rfl⟩ := List.mem_map.mp hd
  cases n <;> rfl
theorem shp_lS (n : Nat) (xs : List Str) : shp (n + 1) (lS xs) = true := shp_sD n xs
theorem shp_tS (n : Nat) (xs : List Str) : shp (n + 1) (tS xs) = true := shp_sD n xs
theorem flat_sD (xs : List Str) : (sD xs).all flatD = true := by
  rw [List.all_eq_true]
  intro d hd
  obtain ⟨s, _, rfl⟩ := List.mem_map.mp hd
  rfl
theorem any_sD (xs : List Str) (s : Str) : ((sD xs).any fun z => PyData.eqv z (.str s)) = decide (s ∈ xs) := by
  rw [List.any_map]
  induction xs with
  | nil => simp
  | cons x r ih =>
    rw [List.any_cons, ih]
    simp only [Function.comp, eqv_str]
    by_cases a : x = s
    · subst a; simp
    · have : ¬ s = x := fun h => a h.symm
      simp [a, this]
theorem datas_sD (xs : List Str) : datas ((sD xs).map W.d) = some (sD xs) := datas_map _
theorem first_sD {xs : List Str} {s : Str} {j : Nat} (h : xs.findIdx? (· == s) = some j) : firstD (.str s) (sD xs) = some j := by
  induction xs generalizing j with
  | nil => cases h
  | cons x r ih =>
    show (if PyData.eqv (.str x) (.str s) = true then some 0 else (firstD (.str s) (sD r)).map (· + 1)) = _
    rw [List.findIdx?_cons] at h
    rw [eqv_str]
    by_cases z : x = s
    · subst z
      simp at h
      simp [h]
    · have e : (x == s) = false := by simpa using z
      rw [e] at h
      simp only [Bool.false_eq_true, if_false, Option.map_eq_some_iff] at h
      obtain ⟨i, hi, rfl⟩ := h
      rw [ih hi]
      simp [z]
/-- a list of texts, kept or not; a list or a tuple of texts -/
class LstS (x : W) (O : Oh) (xs : outParam (List Str)) : Prop where
  e : asD x O = some (lS xs)
instance {O : Oh} {xs : List Str} : LstS (.d (.list (xs.map PyData.str))) O xs := ⟨rfl⟩
instance (priority := high) {O : Oh} : LstS (.d (.list [])) O [] := ⟨rfl⟩
theorem asD_cell {O : Oh} {j : Nat} {ws : List W} {ds : List PyData} (h : O[j]? = some (.lst ws)) (d : datas ws = some ds) : asD (.c j) O = some (.list ds) := by
  unfold asD; dsimp only; rw [h]; dsimp only; rw [d]
instance {O : Oh} {j : Nat} {xs : List Str} [g : Cl O j (.lst ((xs.map PyData.str).map W.d))] : LstS (.c j) O xs := ⟨asD_cell g.e (datas_sD xs)⟩
instance (priority := high) {O : Oh} {j : Nat} [g : Cl O j (.lst [])] : LstS (.c j) O [] := ⟨asD_cell g.e rfl⟩
class SeqS (x : W) (O : Oh) (xs : outParam (List Str)) : Prop where
  nd : isDictW x O = false
  ns : ∀ s, x ≠ .d (.str s)
  e : ∃ d, asD x O = some d ∧ seqD d = some (sD xs) ∧ shp 40 d = true
instance {O : Oh} {xs : List Str} : SeqS (.d (.list (xs.map PyData.str))) O xs := ⟨rfl, (fun s h => by cases h), _, rfl, rfl, shp_lS 39 xs⟩
instance {O : Oh} {xs : List Str} : SeqS (.d (.tuple (xs.map PyData.str))) O xs := ⟨rfl, (fun s h => by cases h), _, rfl, rfl, shp_tS 39 xs⟩
instance {O : Oh} {j : Nat} {xs : List Str} [g : Cl O j (.lst ((xs.map PyData.str).map W.d))] : SeqS (.c j) O xs := ⟨(inferInstance : NoDi (.c j) O).e, (fun s h => by cases h), _, asD_cell g.e (datas_sD xs), rfl, shp_lS 39 xs⟩
theorem asD_app {x : W} {O L : Oh} {d : PyData} (h : asD x O = some d) : asD x (O ++ L) = some d := by
  cases x with
  | c j =>
    unfold asD at h ⊢
    dsimp only at h ⊢
    split at h
    · next ws e =>
      rw [List.getElem?_append_left (List.getElem?_eq_some_iff.mp e).1, e]
      exact h
    · cases h
  | _ => exact h
theorem isDict_app {x : W} {O L : Oh} {d : PyData} (h : asD x O = some d) (e : isDictW x O = false) : isDictW x (O ++ L) = false := by
  cases x with
  | c j =>
    unfold asD at h
    dsimp only at h
    split at h
    · next ws e =>
      unfold isDictW asDk asDt
      dsimp only
      rw [List.getElem?_append_left (List.getElem?_eq_some_iff.mp e).1, e]
      rfl
    · cases h
  | d y => cases y <;> exact e
  | _ => exact e
instance (priority := low) {x : W} {O L : Oh} {xs : List Str} [q : SeqS x O xs] : SeqS x (O ++ L) xs := by
  obtain ⟨d, h1, h2, h3⟩ := q.e
  exact ⟨isDict_app h1 q.nd, q.ns, d, asD_app h1, h2, h3⟩
instance (priority := low) {x : W} {O L : Oh} {xs : List Str} [q : LstS x O xs] : LstS x (O ++ L) xs := ⟨asD_app q.e⟩
theorem go_inS {neg : Bool} {s : Str} {y : W} {xs : List Str} {O : Oh} {R : DK} [q : SeqS y O xs] (h : R (.d (.bool (if neg then !decide (s ∈ xs) else decide (s ∈ xs)))) O) : dIn2 neg (.d (.str s)) y O R := by
  obtain ⟨d, h1, h2, h3⟩ := q.e
  refine in_of ⟨q.nd⟩ q.ns rfl h1 h2 rfl h3 ?_
  rw [any_sD]
  exact h
instance {s : Str} {y : W} {xs : List Str} {O : Oh} {R : DK} [q : SeqS y O xs] : Go (dIn2 false (.d (.str s)) y O R) (R (.d (.bool (decide (s ∈ xs)))) O) := ⟨fun h => go_inS h⟩
instance {s : Str} {y : W} {xs : List Str} {O : Oh} {R : DK} [q : SeqS y O xs] : Go (dIn2 true (.d (.str s)) y O R) (R (.d (.bool (decide (s ∉ xs)))) O) := ⟨fun h => go_inS (by rw [if_pos rfl, ← decide_not]; exact h)⟩
theorem go_eqS {x y : W} {xs ys : List Str} {O : Oh} {R : DK} [a : LstS x O xs] [b : LstS y O ys] (h : R (.d (.bool (decide (xs = ys)))) O) : dEq x y O R := by
  unfold dEq; rw [a.e, b.e]; dsimp only; rw [eqv_lS]; exact ⟨shp_lS 39 _, shp_lS 39 _, h⟩
theorem go_neS {x y : W} {xs ys : List Str} {O : Oh} {R : DK} [a : LstS x O xs] [b : LstS y O ys] (h : R (.d (.bool (!decide (xs = ys)))) O) : dNe x y O R := by
  unfold dNe; rw [a.e, b.e]; dsimp only; rw [eqv_lS]; exact ⟨shp_lS 39 _, shp_lS 39 _, h⟩
instance {x y : W} {xs ys : List Str} {O : Oh} {R : DK} [a : LstS x O xs] [b : LstS y O ys] : Go (dEq x y O R) (R (.d (.bool (decide (xs = ys)))) O) := ⟨go_eqS⟩
instance {x y : W} {xs ys : List Str} {O : Oh} {R : DK} [a : LstS x O xs] [b : LstS y O ys] : Go (dNe x y O R) (R (.d (.bool (decide (xs ≠ ys)))) O) := ⟨fun h => go_neS (by rw [← decide_not]; exact h)⟩
/-! #### slices -/
theorem cut_take {α : Type} (xs : List α) (j : Nat) : cutL xs none (some (j : Nat)) = xs.take j := by
  unfold cutL
  rw [HT.sIx_none, HT.sIx_nat, List.drop_zero, Nat.sub_zero]
  by_cases h : j ≤ xs.length
  · rw [Nat.min_eq_left h]
  · rw [Nat.min_eq_right (by omega), List.take_length, List.take_of_length_le (by omega)]
theorem cut_drop {α : Type} (xs : List α) (j : Nat) : cutL xs (some (j : Nat)) none = xs.drop j := by
  unfold cutL
  rw [HT.sIx_none, HT.sIx_nat]
  by_cases h : j ≤ xs.length
  · rw [Nat.min_eq_left h, List.take_of_length_le (by rw [List.length_drop]; exact Nat.le_refl _)]
  · rw [Nat.min_eq_right (by omega), Nat.sub_self, List.take_zero, List.drop_eq_nil_of_le (by omega)]
/-! #### places -/
class Ix (ds : List PyData) (i : Int) (d : outParam PyData) : Prop where
  e : atI (ds.map W.d) i = some (.d d)
theorem atI_map {ds : List PyData} {m : Nat} {d : PyData} (h : ds[m]? = some d) : atI (ds.map W.d) (m : Nat) = some (.d d) := atI_nat (by rw [List.getElem?_map, h]; rfl)
instance {a : PyData} {l : List PyData} : Ix (a :: l) 0 a := ⟨atI_map (m := 0) rfl⟩
instance {a b : PyData} {l : List PyData} : Ix (a :: b :: l) 1 b := ⟨atI_map (m := 1) rfl⟩
instance {a b c : PyData} {l : List PyData} : Ix (a :: b :: c :: l) 2 c := ⟨atI_map (m := 2) rfl⟩
instance {α : Type} {en : α → PyData} {a : α} {l : List α} : Ix ((a :: l).map en) 0 (en a) := ⟨atI_map (m := 0) rfl⟩
class Fz (x : W) (O : Oh) (ds : outParam (List PyData)) : Prop where
  nd : isDictW x O = false
  e : asS x O = some (ds.map W.d)
instance {O : Oh} {ds : List PyData} : Fz (.d (.list ds)) O ds := ⟨rfl, rfl⟩
instance {O : Oh} {ds : List PyData} : Fz (.d (.tuple ds)) O ds := ⟨rfl, rfl⟩
instance {O : Oh} {ds : List PyData} : Fz (.p ds) O ds := ⟨rfl, rfl⟩
instance {O : Oh} {j : Nat} {ds : List PyData} [g : Cl O j (.lst (ds.map W.d))] : Fz (.c j) O ds := ⟨(inferInstance : NoDi (.c j) O).e, by unfold asS; dsimp only; rw [g.e]⟩
theorem go_ix {x : W} {O : Oh} {ds : List PyData} {i : Int} {d : PyData} {R : DK} [f : Fz x O ds] (hi : atI (ds.map W.d) i = some (.d d)) (h : R (.d d) O) : dIx2 x (.d (.int i)) O R := by
  haveI : NoDi x O := ⟨f.nd⟩
  haveI : AsS x O (ds.map W.d) := ⟨f.e⟩
  exact ix2_of hi h
instance {x : W} {O : Oh} {ds : List PyData} {i : Int} {d : PyData} {R : DK} [f : Fz x O ds] [g : Ix ds i d] : Go (dIx2 x (.d (.int i)) O R) (R (.d d) O) := ⟨go_ix g.e⟩
/-! #### walks along what is written as a list -/
theorem for_map {α : Type} (en : α → W) {f b c : Gm → Oh → Prop} {r : DK} {t : Tg} {body : DSt} {xe : DX} {xs : List α} {Γ : Gm} {O : Oh} (I : List α → Gm → Oh → Prop) (h : I xs Γ O)
    (h0 : ∀ Γ O, I [] Γ O → f Γ O)
    (h1 : ∀ x q Γ O, I (x :: q) Γ O → ∀ C : Gm → Oh → Prop, (∀ Γ' O', I q Γ' O' → C Γ' O') → t.put (en x) Γ fun Γ1 => body ⟨C, r, f, C⟩ xe Γ1 O) : forGo (fun _ => True) t body ⟨f, r, b, c⟩ xe (xs.map en) Γ O := by
  refine for_rule (fun q Γ O => ∃ ys, q = ys.map en ∧ I ys Γ O) ⟨xs, rfl, h⟩ ?_ ?_
  · rintro Γ O ⟨ys, e, i⟩
    cases ys with
    | nil => exact ⟨trivial, h0 _ _ i⟩
    | cons y ys => cases e
  · rintro x q Γ O ⟨ys, e, i⟩
    cases ys with
    | nil => cases e
    | cons y ys =>
      rw [List.map_cons] at e
      injection e with e1 e2
      subst e1 e2
      exact ⟨trivial, fun C hC => h1 _ _ _ _ i C fun Γ' O' i' => hC _ _ ⟨ys, rfl, i'⟩⟩
theorem for_mapD {α : Type} (en : α → PyData) {f b c : Gm → Oh → Prop} {r : DK} {t : Tg} {body : DSt} {xe : DX} {xs : List α} {Γ : Gm} {O : Oh} (I : List α → Gm → Oh → Prop) (h : I xs Γ O)
    (h0 : ∀ Γ O, I [] Γ O → f Γ O)
    (h1 : ∀ x q Γ O, I (x :: q) Γ O → ∀ C : Gm → Oh → Prop, (∀ Γ' O', I q Γ' O' → C Γ' O') → t.put (.d (en x)) Γ fun Γ1 => body ⟨C, r, f, C⟩ xe Γ1 O) : forGo (fun _ => True) t body ⟨f, r, b, c⟩ xe ((xs.map en).map W.d) Γ O := by
  rw [List.map_map]
  exact for_map (W.d ∘ en) I h h0 h1
/-- enumerate(..) -/
theorem for_enum {α : Type} (en : α → PyData) {f b c : Gm → Oh → Prop} {r : DK} {t : Tg} {body : DSt} {xe : DX} {xs : List α} {k : Nat} {Γ : Gm} {O : Oh} (I : Nat → List α → Gm → Oh → Prop) (h : I k xs Γ O)
    (h0 : ∀ k Γ O, I k [] Γ O → f Γ O)
    (h1 : ∀ k x q Γ O, I k (x :: q) Γ O → ∀ C : Gm → Oh → Prop, (∀ Γ' O', I (k + 1) q Γ' O' → C Γ' O') → t.put (.p [.int (k : Nat), en x]) Γ fun Γ1 => body ⟨C, r, f, C⟩ xe Γ1 O) : forGo (fun _ => True) t body ⟨f, r, b, c⟩ xe (enumW k (xs.map en)) Γ O := by
  refine for_rule (fun q Γ O => ∃ k ys, q = enumW k (ys.map en) ∧ I k ys Γ O) ⟨k, xs, rfl, h⟩ ?_ ?_
  · rintro Γ O ⟨k, ys, e, i⟩
    cases ys with
    | nil => exact ⟨trivial, h0 _ _ _ i⟩
    | cons y ys => cases e
  · rintro x q Γ O ⟨k, ys, e, i⟩
    cases ys with
    | nil => cases e
    | cons y ys =>
      injection e with e1 e2
      subst e1 e2
      exact ⟨trivial, fun C hC => h1 _ _ _ _ _ i C fun Γ' O' i' => hC _ _ ⟨k + 1, ys, rfl, i'⟩⟩
/-- range(..) -/
theorem for_rng {f b c : Gm → Oh → Prop} {r : DK} {t : Tg} {body : DSt} {xe : DX} {n : Nat} {Γ : Gm} {O : Oh} (I : Nat → Gm → Oh → Prop) (h : I 0 Γ O)
    (h0 : ∀ Γ O, I n Γ O → f Γ O)
    (h1 : ∀ k Γ O, k < n → I k Γ O → ∀ C : Gm → Oh → Prop, (∀ Γ' O', I (k + 1) Γ' O' → C Γ' O') → t.put (.d (.int (k : Nat))) Γ fun Γ1 => body ⟨C, r, f, C⟩ xe Γ1 O) : forGo (fun _ => True) t body ⟨f, r, b, c⟩ xe (rgW 0 n) Γ O := by
  refine for_rule (fun q Γ O => ∃ k m : Nat, k + m = n ∧ q = rgW (k : Nat) m ∧ I k Γ O) ⟨0, n, by omega, rfl, h⟩ ?_ ?_
  · rintro Γ O ⟨k, m, hk, e, i⟩
    cases m with
    | zero => have : k = n := by omega
              subst this; exact ⟨trivial, h0 _ _ i⟩
    | succ m => cases e
  · rintro x q Γ O ⟨k, m, hk, e, i⟩
    cases m with
    | zero => cases e
    | succ m =>
      injection e with e1 e2
      subst e1 e2
      exact ⟨trivial, fun C hC => h1 _ _ _ (by omega) i C fun Γ' O' i' => hC _ _ ⟨k + 1, m, by omega, by simp, i'⟩⟩
/-- a list made of each element by itself -/
theorem lc_map {α : Type} (en : α → W) {i : Nat} {tt : DT} {we : DEx} {Γ : Gm} {fin : List PyData → Oh → Prop} {xs : List α} {O : Oh} {ok : Oh → Prop} (p : α → Bool) (g : α → PyData) (hok : ok O) (hz : xs.length ≤ 1000000)
    (h1 : ∀ x ∈ xs, ∀ C, C (p x) O → (Tg.nm i).put (en x) Γ fun Γ' => tt Γ' O C X0) (h2 : ∀ x ∈ xs, p x = true → ∀ C : DK, C (.d (g x)) O → (Tg.nm i).put (en x) Γ fun Γ' => we Γ' O C X0)
    (h : fin ((xs.filter p).map g) O) : lcGo ok (.nm i) tt we Γ fin (xs.map en) [] O := by
  refine lc_rule (fun q acc O' => ∃ ys : List α, q = ys.map en ∧ O' = O ∧ (∀ x ∈ ys, x ∈ xs) ∧ acc.length + ys.length ≤ 1000000 ∧ acc ++ (ys.filter p).map g = (xs.filter p).map g) ⟨xs, rfl, rfl, fun _ h => h, by simpa using hz, rfl⟩ ?_ ?_
  · rintro acc O' ⟨ys, e0, rfl, _, _, e⟩
    cases ys with
    | cons y ys => cases e0
    | nil =>
      simp only [List.filter_nil, List.map_nil, List.append_nil] at e
      subst e
      exact ⟨hok, h⟩
  · rintro x q acc O' ⟨ys, e0, rfl, hm, hl, e⟩
    cases ys with
    | nil => cases e0
    | cons y ys =>
      rw [List.map_cons] at e0
      injection e0 with e1 e2
      subst e1 e2
      refine ⟨hok, fun C N hC hN => ?_⟩
      unfold Tg.put
      refine h1 y (hm y List.mem_cons_self) _ ?_
      unfold kLcT
      rw [List.length_cons] at hl
      by_cases z : p y = true
      · rw [if_pos z]
        refine h2 y (hm y List.mem_cons_self) z _ (hC _ _ (by omega) ⟨ys, rfl, rfl, fun w hw => hm w (List.mem_cons_of_mem _ hw), by simp; omega, ?_⟩)
        rw [List.filter_cons_of_pos z, List.map_cons] at e
        rw [← e]; simp
      · rw [if_neg z]
        rw [List.filter_cons_of_neg z] at e
        exact hN _ ⟨ys, rfl, rfl, fun w hw => hm w (List.mem_cons_of_mem _ hw), by omega, e⟩
theorem lc_mapD {α : Type} (en : α → PyData) {i : Nat} {tt : DT} {we : DEx} {Γ : Gm} {fin : List PyData → Oh → Prop} {xs : List α} {O : Oh} {ok : Oh → Prop} (p : α → Bool) (g : α → PyData) (hok : ok O) (hz : xs.length ≤ 1000000)
    (h1 : ∀ x ∈ xs, ∀ C, C (p x) O → (Tg.nm i).put (.d (en x)) Γ fun Γ' => tt Γ' O C X0) (h2 : ∀ x ∈ xs, p x = true → ∀ C : DK, C (.d (g x)) O → (Tg.nm i).put (.d (en x)) Γ fun Γ' => we Γ' O C X0)
    (h : fin ((xs.filter p).map g) O) : lcGo ok (.nm i) tt we Γ fin ((xs.map en).map W.d) [] O := by
  rw [List.map_map]
  exact lc_map (W.d ∘ en) p g hok hz h1 h2 h
/-- .. each element kept -/
theorem lc_all {α : Type} (en : α → PyData) {i : Nat} {we : DEx} {Γ : Gm} {fin : List PyData → Oh → Prop} {xs : List α} {O : Oh} {ok : Oh → Prop} (g : α → PyData) (hok : ok O) (hz : xs.length ≤ 1000000)
    (h2 : ∀ x ∈ xs, ∀ C : DK, C (.d (g x)) O → (Tg.nm i).put (.d (en x)) Γ fun Γ' => we Γ' O C X0)
    (h : fin (xs.map g) O) : lcGo ok (.nm i) dYes we Γ fin ((xs.map en).map W.d) [] O :=
  lc_mapD en (fun _ => true) g hok hz (fun x _ C hC => by unfold Tg.put; exact hC) (fun x hx _ => h2 x hx) (by rw [List.filter_eq_self.mpr (fun _ _ => rfl)]; exact h)
/-- .. with a store that changes: along range(..) -/
theorem lc_rng {t : Tg} {tt : DT} {we : DEx} {Γ : Gm} {fin : List PyData → Oh → Prop} {n : Nat} {O : Oh} (I : Nat → List PyData → Oh → Prop) (h : I 0 [] O)
    (h0 : ∀ acc O, I n acc O → fin acc O)
    (h1 : ∀ k acc O, k < n → I k acc O → ∀ (C : DK) (N : Oh → Prop), (∀ z O', acc.length < 1000000 → I (k + 1) (acc ++ [z]) O' → C (.d z) O') → (∀ O', I (k + 1) acc O' → N O') →
      t.put (.d (.int (k : Nat))) Γ fun Γ1 => tt Γ1 O (kLcT we Γ1 C N) X0) : lcGo (fun _ => True) t tt we Γ fin (rgW 0 n) [] O := by
  refine lc_rule (fun q acc O => ∃ k m : Nat, k + m = n ∧ q = rgW (k : Nat) m ∧ I k acc O) ⟨0, n, by omega, rfl, h⟩ ?_ ?_
  · rintro acc O ⟨k, m, hk, e, i⟩
    cases m with
    | zero => have : k = n := by omega
              subst this; exact ⟨trivial, h0 _ _ i⟩
    | succ m => cases e
  · rintro x q acc O ⟨k, m, hk, e, i⟩
    cases m with
    | zero => cases e
    | succ m =>
      injection e with e1 e2
      subst e1 e2
      exact ⟨trivial, fun C N hC hN => h1 _ _ _ (by omega) i C N (fun z O' hz i' => hC _ _ hz ⟨k + 1, m, by omega, by simp, i'⟩) (fun O' i' => hN _ ⟨k + 1, m, by omega, by simp, i'⟩)⟩
/-- .. along a list -/
theorem lc_mapI {α : Type} (en : α → PyData) {t : Tg} {tt : DT} {we : DEx} {Γ : Gm} {fin : List PyData → Oh → Prop} {xs : List α} {O : Oh} (I : List α → List PyData → Oh → Prop) (h : I xs [] O)
    (h0 : ∀ acc O, I [] acc O → fin acc O)
    (h1 : ∀ x q acc O, I (x :: q) acc O → ∀ (C : DK) (N : Oh → Prop), (∀ z O', acc.length < 1000000 → I q (acc ++ [z]) O' → C (.d z) O') → (∀ O', I q acc O' → N O') →
      t.put (.d (en x)) Γ fun Γ1 => tt Γ1 O (kLcT we Γ1 C N) X0) : lcGo (fun _ => True) t tt we Γ fin ((xs.map en).map W.d) [] O := by
  refine lc_rule (fun q acc O => ∃ ys : List α, q = (ys.map en).map W.d ∧ I ys acc O) ⟨xs, rfl, h⟩ ?_ ?_
  · rintro acc O ⟨ys, e, i⟩
    cases ys with
    | nil => exact ⟨trivial, h0 _ _ i⟩
    | cons y ys => cases e
  · rintro x q acc O ⟨ys, e, i⟩
    cases ys with
    | nil => cases e
    | cons y ys =>
      simp only [List.map_cons, List.cons.injEq] at e
      obtain ⟨rfl, rfl⟩ := e
      exact ⟨trivial, fun C N hC hN => h1 _ _ _ _ i C N (fun z O' hz i' => hC _ _ hz ⟨ys, rfl, i'⟩) (fun O' i' => hN _ ⟨ys, rfl, i'⟩)⟩
theorem rgW_map : ∀ (m n : Nat), rgW (m : Nat) n = ((List.range' m n).map fun k => PyData.int (k : Nat)).map W.d
  | _, 0 => rfl
  | m, n + 1 => by
    show W.d (.int (m : Nat)) :: rgW ((m : Int) + 1) n = _
    rw [show ((m : Int) + 1) = ((m + 1 : Nat) : Int) by simp, rgW_map (m + 1) n]
    rfl
theorem rgW_range (n : Nat) : rgW 0 n = ((List.range n).map fun k => PyData.int (k : Nat)).map W.d := by
  rw [List.range_eq_range']; exact rgW_map 0 n
end Dl
namespace Dl
open PySem PySem.Spec PyProof.Rows L2
/-! ### dicts by texts -/
def OkS (s : Str) : Prop := PyData.strOk s = true ∧ s.length ≤ 12
def kvM (f : Str → W) (σ : List Str) : List (Key × W) := σ.map fun s => (.inr s, f s)
theorem valW_kvM (f : Str → W) (s : Str) : ∀ σ : List Str, valW (kvM f σ) (.inr s) = if s ∈ σ then some (f s) else none
  | [] => rfl
  | x :: r => by
    unfold valW kvM
    rw [List.map_cons]
    by_cases z : x = s
    · subst z
      rw [List.find?_cons_of_pos (by simp)]
      simp
    · rw [List.find?_cons_of_neg (by simpa using z)]
      have ih := valW_kvM f s r
      unfold valW kvM at ih
      rw [ih]
      have : (s ∈ x :: r) = (s ∈ r) := by
        rw [List.mem_cons]
        exact propext ⟨fun h => h.elim (fun e => absurd e.symm z) id, .inr⟩
      simp only [this]
theorem kvM_len (f : Str → W) (σ : List Str) : (kvM f σ).length = σ.length := List.length_map _
/-- a dict by texts: a cell, or one that never changes -/
class KvM (x : W) (O : Oh) (f : outParam (Str → W)) (σ : outParam (List Str)) : Prop where
  e : asDk x O = some (kvM f σ)
instance {O : Oh} {j : Nat} {f : Str → W} {σ : List Str} [g : Cl O j (.dic (kvM f σ))] : KvM (.c j) O f σ := ⟨(inferInstance : IsDk (.c j) O (kvM f σ)).e⟩
abbrev kvD (f : Str → PyData) (σ : List Str) : List (PyData × PyData) := σ.map fun s => (PyData.str s, f s)
theorem keysD_kvD (f : Str → PyData) : ∀ σ : List Str, keysD (kvD f σ) = some (kvM (fun s => .d (f s)) σ)
  | [] => rfl
  | s :: r => by
    show (match keysD (kvD f r) with | some kvs => some (((Sum.inr s : Key), W.d (f s)) :: kvs) | none => none) = _
    rw [keysD_kvD f r]; rfl
instance {O : Oh} {f : Str → PyData} {σ : List Str} : KvM (.d (.dict (σ.map fun s => (PyData.str s, f s)))) O (fun s => .d (f s)) σ := ⟨keysD_kvD f σ⟩
theorem go_inK {neg : Bool} {x : W} {s : Str} {O : Oh} {R : DK} {f : Str → W} {σ : List Str} [g : KvM x O f σ] (h : R (.d (.bool (if neg then decide (s ∉ σ) else decide (s ∈ σ)))) O) : dIn2 neg (.d (.str s)) x O R := by
  have e := g.e
  unfold dIn2
  rw [if_pos (by unfold isDictW; rw [e]; rfl)]
  unfold dGet
  rw [e]
  show R (.d (.bool (if neg then !(valW (kvM f σ) (.inr s)).isSome else (valW (kvM f σ) (.inr s)).isSome))) O
  rw [valW_kvM]
  by_cases z : s ∈ σ
  · rw [if_pos z]; cases neg <;> simpa [z] using h
  · rw [if_neg z]; cases neg <;> simpa [z] using h
instance {x : W} {s : Str} {O : Oh} {R : DK} {f : Str → W} {σ : List Str} [g : KvM x O f σ] : Go (dIn2 false (.d (.str s)) x O R) (R (.d (.bool (decide (s ∈ σ)))) O) := ⟨fun h => go_inK h⟩
instance {x : W} {s : Str} {O : Oh} {R : DK} {f : Str → W} {σ : List Str} [g : KvM x O f σ] : Go (dIn2 true (.d (.str s)) x O R) (R (.d (.bool (decide (s ∉ σ)))) O) := ⟨fun h => go_inK (by rw [if_pos rfl]; exact h)⟩
theorem go_ixK {x : W} {s : Str} {O : Oh} {R : DK} {f : Str → W} {σ : List Str} [g : KvM x O f σ] (hs : s ∈ σ) (h : R (f s) O) : dIx2 x (.d (.str s)) O R := by
  have e := g.e
  unfold dIx2
  rw [if_pos (by unfold isDictW; rw [e]; rfl)]
  unfold dGet
  rw [e]
  show (match valW (kvM f σ) (.inr s) with | some w => R w O | none => False)
  rw [valW_kvM, if_pos hs]
  exact h
theorem kvM_keys {f : Str → W} {σ : List Str} (h : ∀ s ∈ σ, OkS s) : ((kvM f σ).map (·.1)).all keyOk = true := by
  rw [List.all_eq_true]
  intro k hk
  unfold kvM at hk
  rw [List.map_map] at hk
  obtain ⟨s, hs, rfl⟩ := List.mem_map.mp hk
  exact (h s hs).1
theorem go_listOfK {x : W} {O : Oh} {R : DK} {f : Str → W} {σ : List Str} [g : KvM x O f σ] (hz : σ.length ≤ 1000000) (hk : ∀ s ∈ σ, OkS s) (h : R (.d (lS σ)) O) : dListOf2 [x] O R := by
  have e := g.e
  unfold dListOf2
  dsimp only
  rw [e]
  refine ⟨by rw [kvM_len]; exact hz, kvM_keys hk, ?_⟩
  have e2 : (kvM f σ).map (fun kv => keyD kv.1) = sD σ := by unfold kvM; rw [List.map_map]; rfl
  rw [e2]
  exact h
/-! ### walks where something has to stay -/
end Dl
namespace Dl
open PySem PySem.Spec PyProof.Rows L2
/-! ### rows as data -/
def kvS (σ : List Str) : List (Key × W) := σ.map fun s => (.inr s, .d (.bool true))
theorem putW_kvS (σ : List Str) (v : Str) : putW (kvS σ) (.inr v) (.d (.bool true)) = kvS (addMet σ v) := by
  unfold putW addMet kvS
  have e : ((σ.map fun s => ((.inr s, .d (.bool true)) : Key × W)).any fun kv => decide (kv.1 = .inr v)) = σ.any (· == v) := by
    rw [List.any_map]
    congr 1
    funext s
    simp only [Function.comp]
    by_cases z : s = v
    · subst z; simp
    · have : ¬ (Sum.inr s = (Sum.inr v : Key)) := fun h => z (Sum.inr.inj h)
      simp [z]
  rw [e]
  split
  · rw [List.map_map]
    congr 1
    funext s
    simp only [Function.comp]
    split <;> rfl
  · rw [List.map_append]; rfl
theorem kvS_len (σ : List Str) : (kvS σ).length = σ.length := List.length_map _
/-- few rows, of few unlike names -/
structure GoodR (rs : List (List Str)) : Prop where
  few : rs.length ≤ 6
  row : ∀ r ∈ rs, r.Nodup ∧ r.length ≤ 8 ∧ ∀ s ∈ r, OkS s
def namesOf (rs : List (List Str)) : List Str := met rs.flatten
theorem GoodR.flat {rs : List (List Str)} (g : GoodR rs) : rs.flatten.length ≤ 48 := by
  have : ∀ rs : List (List Str), (∀ r ∈ rs, r.length ≤ 8) → rs.flatten.length ≤ 8 * rs.length := by
    intro rs
    induction rs with
    | nil => intro _; simp
    | cons r q ih =>
      intro h
      rw [List.flatten_cons, List.length_append, List.length_cons]
      have := ih fun x hx => h x (List.mem_cons_of_mem _ hx)
      have := h r List.mem_cons_self
      omega
  have h1 := this rs fun r hr => (g.row r hr).2.1
  have := g.few
  omega
theorem met_len (xs : List Str) : (met xs).length ≤ xs.length := by have := met_le_aux xs []; simpa [met] using this
theorem met_strs {xs : List Str} {s : Str} : s ∈ met xs → s ∈ xs := by
  have : ∀ (ys σ : List Str), s ∈ ys.foldl addMet σ → s ∈ σ ∨ s ∈ ys := by
    intro ys
    induction ys with
    | nil => intro σ h; exact .inl h
    | cons y r ih =>
      intro σ h
      rcases ih _ h with h | h
      · unfold addMet at h
        split at h
        · exact .inl h
        · rcases List.mem_append.mp h with h | h
          · exact .inl h
          · rw [List.mem_singleton] at h; exact .inr (h ▸ List.mem_cons_self)
      · exact .inr (List.mem_cons_of_mem _ h)
  intro h
  rcases this _ _ h with h | h
  · cases h
  · exact h
theorem kvS_keys (σ : List Str) (h : ∀ s ∈ σ, OkS s) : ((kvS σ).map (·.1)).all keyOk = true := by
  rw [List.all_eq_true]
  intro k hk
  unfold kvS at hk
  rw [List.map_map] at hk
  obtain ⟨s, hs, rfl⟩ := List.mem_map.mp hk
  exact (h s hs).1
theorem kvS_strs (σ : List Str) : (kvS σ).map (fun kv => W.d (keyD kv.1)) = (sD σ).map W.d := by
  unfold kvS; rw [List.map_map, List.map_map]; rfl
theorem go_listCd {O O' : Oh} {R : DK} {x : W} {kvs : List (Key × W)} {ws : List W} {j : Nat} [k : IsDk x O kvs] (hz : kvs.length ≤ 1000000) (hk : (kvs.map (·.1)).all keyOk = true) (e : kvs.map (fun kv => W.d (keyD kv.1)) = ws) [n : Nw O (.lst ws) j O'] (h : R (.c j) O') : dListC2 [x] O R := by
  unfold dListC2; dsimp only; rw [k.e]; refine ⟨hz, hk, ?_⟩; rw [e, n.e.1, n.e.2]; exact h
theorem sp_names_of {rs : List (List Str)} (g : GoodR rs) {O O' : Oh} {j : Nat} {R : DK} {xe : Exn → Oh → Prop} [nw : Nw O (.lst ((sD (namesOf rs)).map W.d)) j O'] (h : R (.c j) O') : w_names_of [.d (tR rs)] O R xe := by
  rw [← nw.e.1, ← nw.e.2] at h
  refine def_startC rfl fun n l cl => ?_
  obtain rfl : O.length = n := l.e
  repeat refine Go.h ?_
  refine for_mapD tS (fun done Γ O' => ∃ a b σ, Γ = [some (.d (tR rs)), some (.c (O.length + 0)), a, b] ∧ O' = O ++ [.dic (kvS σ)] ∧ σ.length + done.flatten.length ≤ 48 ∧ done.flatten.foldl addMet σ = namesOf rs)
    ⟨none, none, [], rfl, rfl, by simpa using g.flat, rfl⟩ ?_ ?_
  · rintro Γ O' ⟨a, b, σ, rfl, rfl, hz, e⟩
    simp only [List.flatten_nil, List.foldl_nil] at e
    subst e
    repeat refine Go.h ?_
    refine go_listCd (by rw [kvS_len]; omega) (kvS_keys _ fun s hs => ?_) (kvS_strs _) ?_
    · obtain ⟨r, hr, hs⟩ := List.mem_flatten.mp (met_strs hs)
      exact (g.row r hr).2.2 s hs
    · repeat refine Go.h ?_
      exact h
  · rintro r done Γ O' ⟨a, b, σ, rfl, rfl, hz, e⟩ C hC
    repeat refine Go.h ?_
    rw [List.flatten_cons, List.foldl_append] at e
    rw [List.flatten_cons, List.length_append] at hz
    refine for_mapD PyData.str (fun rest Γ O' => ∃ b σ2, Γ = [some (.d (tR rs)), some (.c (O.length + 0)), some (.d (tS r)), b] ∧ O' = O ++ [.dic (kvS σ2)] ∧ σ2.length + rest.length + done.flatten.length ≤ 48 ∧ rest.foldl addMet σ2 = r.foldl addMet σ)
      ⟨b, σ, rfl, rfl, by omega, rfl⟩ ?_ ?_
    · rintro Γ O' ⟨b, σ2, rfl, rfl, hz, e2⟩
      exact hC _ _ ⟨_, _, σ2, rfl, rfl, by simpa using hz, by rw [← e, ← e2]; rfl⟩
    · rintro s rest Γ O' ⟨b, σ2, rfl, rfl, hz, e2⟩ C2 hC2
      rw [List.length_cons] at hz
      repeat refine Go.h ?_
      refine putix_key (by rw [kvS_len]; omega) (hC2 _ _ ⟨_, addMet σ2 s, rfl, ?_, ?_, ?_⟩)
      · rw [putW_kvS]
      · have := addMet_le σ2 s; omega
      · rw [← e2]; rfl
/-! ### wishes -/
def ahead (left row : List Str) (a : Str) : List Str := (row.take (row.findIdx (· == a))).filter fun s => decide (s ∈ left)
abbrev Wish := Nat × Str × Str
def wishFrom (left : List Str) (a : Str) : Nat → List (List Str) → Option Wish
  | _, [] => none
  | k, row :: rs => if a ∈ row then (match ahead left row a with
    | b :: _ => some (k, b, a)
    | [] => wishFrom left a (k + 1) rs) else wishFrom left a (k + 1) rs
def wishOf (rs : List (List Str)) (left : List Str) (a : Str) : Option Wish := wishFrom left a 0 rs
abbrev wD (w : Wish) : PyData := .tuple [.int (w.1 : Nat), .str w.2.1, .str w.2.2]
def oD : Option Wish → PyData
  | none => .none
  | some w => wD w
theorem idx_some {xs : List Str} {a : Str} (h : a ∈ xs) : xs.findIdx? (· == a) = some (xs.findIdx (· == a)) := by
  rw [List.findIdx?_eq_some_iff_findIdx_eq]
  exact ⟨List.findIdx_lt_length_of_exists ⟨a, h, by simp⟩, rfl⟩
theorem sp_wish {rs : List (List Str)} {left : List Str} {a : Str} {lw : W} (g : GoodR rs) {O : Oh} {R : DK} {xe : Exn → Oh → Prop} (hl : SeqS lw O left) (h : R (.d (oD (wishOf rs left a))) O) : w_wish_against [.d (tR rs), lw, .d (.str a)] O R xe := by
  refine def_start rfl fun n l cl => ?_
  repeat refine Go.h ?_
  refine for_enum tS (fun k q Γ O' => ∃ x3 x4 x5 x6, Γ = [some (.d (tR rs)), some lw, some (.d (.str a)), x3, x4, x5, x6] ∧ O' = O ++ [] ∧ wishFrom left a k q = wishOf rs left a ∧ ∀ r ∈ q, r ∈ rs)
    ⟨none, none, none, none, rfl, rfl, rfl, fun _ h => h⟩ ?_ ?_
  · rintro k Γ O' ⟨x3, x4, x5, x6, rfl, rfl, e, _⟩
    repeat refine Go.h ?_
    rw [← e] at h
    exact h
  · rintro k row q Γ O' ⟨x3, x4, x5, x6, rfl, rfl, e, hq⟩ C hC
    repeat refine Go.h ?_
    unfold wishFrom at e
    refine dcase (fun ha => ?_) (fun ha => ?_)
    · rw [if_pos ha] at e
      repeat refine Go.h ?_
      refine go_indexT (idx_some ha) ?_
      repeat refine Go.h ?_
      rw [cut_take, ← List.map_take]
      refine lc_mapD PyData.str (fun s => decide (s ∈ left)) PyData.str trivial (by have := (g.row row (hq _ List.mem_cons_self)).2.1; rw [List.length_take]; omega) (fun x _ C hC => ?_) (fun x _ _ C hC => ?_) ?_
      · repeat refine Go.h ?_
        exact hC
      · repeat refine Go.h ?_
        exact hC
      repeat refine Go.h ?_
      unfold ahead at e
      cases hf : (row.take (row.findIdx (· == a))).filter (fun s => decide (s ∈ left)) with
      | nil =>
        rw [hf] at e
        rw [decide_eq_false (by simp)]
        repeat refine Go.h ?_
        exact hC _ _ ⟨_, _, _, _, rfl, rfl, e, fun r hr => hq r (List.mem_cons_of_mem _ hr)⟩
      | cons b t =>
        rw [hf] at e
        rw [decide_eq_true (by simp)]
        repeat refine Go.h ?_
        rw [← e] at h
        exact h
    · rw [if_neg ha] at e
      repeat refine Go.h ?_
      exact hC _ _ ⟨_, _, _, _, rfl, rfl, e, fun r hr => hq r (List.mem_cons_of_mem _ hr)⟩
end Dl
namespace Dl
open PySem PySem.Spec PyProof.Rows L2
/-! ### each once -/
theorem met_nodup_aux : ∀ (xs σ : List Str), (σ ++ xs).Nodup → xs.foldl addMet σ = σ ++ xs
  | [], σ, _ => by simp
  | x :: r, σ, h => by
    have hx : x ∉ σ := fun hm => (List.nodup_append.mp h).2.2 x hm x List.mem_cons_self rfl
    have e : addMet σ x = σ ++ [x] := by
      unfold addMet
      rw [if_neg]
      rw [List.any_eq_true]
      rintro ⟨y, hy, e⟩
      exact hx (by rw [← eq_of_beq e]; exact hy)
    show r.foldl addMet (addMet σ x) = _
    rw [e, met_nodup_aux r (σ ++ [x]) (by simpa using h)]
    simp
theorem met_of_nodup {xs : List Str} (h : xs.Nodup) : met xs = xs := met_nodup_aux xs [] h
theorem addMet_nodup {σ : List Str} {v : Str} (h : σ.Nodup) : (addMet σ v).Nodup := by
  unfold addMet
  split
  · exact h
  · next c =>
    rw [List.nodup_append]
    refine ⟨h, by simp, fun a ha b hb => ?_⟩
    rw [List.mem_singleton] at hb
    subst hb
    intro e
    subst e
    exact c (List.any_eq_true.mpr ⟨a, ha, by simp⟩)
theorem met_nodup (xs : List Str) : (met xs).Nodup := by
  have : ∀ (ys σ : List Str), σ.Nodup → (ys.foldl addMet σ).Nodup := by
    intro ys
    induction ys with
    | nil => exact fun σ h => h
    | cons y r ih => exact fun σ h => ih _ (addMet_nodup h)
  exact this xs [] List.nodup_nil
theorem mem_met {xs : List Str} {s : Str} (h : s ∈ xs) : s ∈ met xs := by
  have key : ∀ (ys σ : List Str), (s ∈ σ ∨ s ∈ ys) → s ∈ ys.foldl addMet σ := by
    intro ys
    induction ys with
    | nil => intro σ h; exact h.elim id (fun h => by cases h)
    | cons y r ih =>
      intro σ h
      apply ih
      rcases h with h | h
      · left; unfold addMet; split
        · exact h
        · exact List.mem_append_left _ h
      · rcases List.mem_cons.mp h with rfl | h
        · left; unfold addMet; split
          · next c =>
            obtain ⟨y, hy, e⟩ := List.any_eq_true.mp c
            rw [← eq_of_beq e]; exact hy
          · simp
        · exact .inr h
  exact key xs [] (.inr h)
/-- unlike ones among some are no more than these -/
theorem nodup_sub_len {xs ys : List Str} (h : xs.Nodup) (s : ∀ x ∈ xs, x ∈ ys) : xs.length ≤ ys.length := by
  induction xs generalizing ys with
  | nil => simp
  | cons x r ih =>
    rw [List.nodup_cons] at h
    have hx := s x List.mem_cons_self
    have := ih (ys := ys.erase x) h.2 fun y hy => (List.mem_erase_of_ne (a := y) (b := x) (fun e => h.1 (by rw [← e]; exact hy))).mpr (s y (List.mem_cons_of_mem _ hy))
    rw [List.length_erase_of_mem hx] at this
    rw [List.length_cons]
    have := List.length_pos_of_mem hx
    omega
theorem nodup_of_met {xs : List Str} (h : (met xs).length = xs.length) : xs.Nodup := by
  have : ∀ (ys σ : List Str), (ys.foldl addMet σ).length = σ.length + ys.length → ys.foldl addMet σ = σ ++ ys := by
    intro ys
    induction ys with
    | nil => intro σ _; simp
    | cons y r ih =>
      intro σ h
      have h : (r.foldl addMet (addMet σ y)).length = σ.length + (r.length + 1) := h
      have l1 := met_le_aux r (addMet σ y)
      have l2 := addMet_le σ y
      have e : (addMet σ y).length = σ.length + 1 := by omega
      have e2 : addMet σ y = σ ++ [y] := by
        unfold addMet at e ⊢
        split
        · next c => rw [if_pos c] at e; omega
        · rfl
      show r.foldl addMet (addMet σ y) = _
      rw [ih _ (by rw [e]; omega), e2]; simp
  have e := this xs [] (by simpa [met] using h)
  have e : met xs = xs := by simpa [met] using e
  rw [← e]; exact met_nodup xs
/-! ### rings -/
def lastOf (f : Str → Option Wish) (names : List Str) : Option Wish := names.getLast?.bind f
def ringRun (f : Str → Option Wish) : Nat → List Str → List Wish → List Str × List Wish
  | 0, names, wishes => (names, wishes)
  | n + 1, names, wishes => if names.Nodup then (match lastOf f names with
    | some w => ringRun f n (names ++ [w.2.1]) (wishes ++ [w])
    | none => (names, wishes)) else (names, wishes)
def ringOf (rs : List (List Str)) (left : List Str) : List Wish :=
  let r := ringRun (wishOf rs left) (left.length + 1) (left.take 1) []
  (r.2.drop ((r.1.findIdx? (· == r.1.getLast?.getD "")).getD 0)).reverse
/-- a wish that a row has -/
def Wished (rs : List (List Str)) (w : Wish) : Prop := ∃ row, rs[w.1]? = some row ∧ w.2.1 ∈ row ∧ w.2.2 ∈ row ∧ row.findIdx (· == w.2.1) < row.findIdx (· == w.2.2)
structure IsRing (rs : List (List Str)) (ring : List Wish) : Prop where
  two : 2 ≤ ring.length
  all : ∀ w ∈ ring, Wished rs w
  nd : (ring.map fun w => w.2.1).Nodup
  turn : ring.map (fun w => w.2.2) = (ring.map fun w => w.2.1).drop 1 ++ (ring.map fun w => w.2.1).take 1
theorem mem_ahead {left row : List Str} {a b : Str} (h : b ∈ ahead left row a) : b ∈ left ∧ b ∈ row ∧ row.findIdx (· == b) < row.findIdx (· == a) := by
  unfold ahead at h
  obtain ⟨h1, h2⟩ := List.mem_filter.mp h
  refine ⟨of_decide_eq_true h2, List.mem_of_mem_take h1, ?_⟩
  obtain ⟨i, hi, e⟩ := List.getElem_of_mem h1
  rw [List.length_take] at hi
  rw [List.getElem_take] at e
  have : row.findIdx (· == b) ≤ i := by
    apply Nat.le_of_not_lt
    intro hlt
    have := List.not_of_lt_findIdx hlt
    rw [e] at this
    simp at this
  omega
theorem wishFrom_ok {left : List Str} {a : Str} {w : Wish} : ∀ {k : Nat} {q : List (List Str)}, wishFrom left a k q = some w → ∃ i row, w.1 = k + i ∧ q[i]? = some row ∧ w.2.2 = a ∧ a ∈ row ∧ w.2.1 ∈ ahead left row a
  | _, [], h => by cases h
  | k, row :: q, h => by
    unfold wishFrom at h
    have next : wishFrom left a (k + 1) q = some w → ∃ i row', w.1 = k + i ∧ (row :: q)[i]? = some row' ∧ w.2.2 = a ∧ a ∈ row' ∧ w.2.1 ∈ ahead left row' a := fun h => by
      obtain ⟨i, row', h1, h2, h3⟩ := wishFrom_ok h
      exact ⟨i + 1, row', by omega, by simpa using h2, h3⟩
    split at h
    · next ha =>
      split at h
      · next b t e =>
        cases h
        exact ⟨0, row, rfl, rfl, rfl, ha, by rw [e]; exact List.mem_cons_self⟩
      · exact next h
    · exact next h
theorem wishOf_ok {rs : List (List Str)} {left : List Str} {a : Str} {w : Wish} (h : wishOf rs left a = some w) : Wished rs w ∧ w.2.2 = a ∧ w.2.1 ∈ left := by
  obtain ⟨i, row, h1, h2, h3, h4, h5⟩ := wishFrom_ok h
  obtain ⟨h6, h7, h8⟩ := mem_ahead h5
  refine ⟨⟨row, by rw [h1, Nat.zero_add]; exact h2, h7, h3 ▸ h4, by rw [h3]; exact h8⟩, h3, h6⟩
theorem ringRun_ok {rs : List (List Str)} {left : List Str} (hf : ∀ a ∈ left, wishOf rs left a ≠ none) :
    ∀ (n : Nat) (names : List Str) (wishes : List Wish), names ≠ [] → (∀ s ∈ names, s ∈ left) → (∀ w ∈ wishes, Wished rs w) → names.tail = wishes.map (fun w => w.2.1) → names.dropLast = wishes.map (fun w => w.2.2) → (names.Nodup ∨ (names.dropLast.Nodup ∧ ¬ names.Nodup)) → left.length + 1 ≤ names.length + n →
      ∃ N Wi, ringRun (wishOf rs left) n names wishes = (N, Wi) ∧ (∀ w ∈ Wi, Wished rs w) ∧ N.tail = Wi.map (fun w => w.2.1) ∧ N.dropLast = Wi.map (fun w => w.2.2) ∧ N.dropLast.Nodup ∧ ¬ N.Nodup ∧ N ≠ []
  | n, names, wishes, h1, h2, h3, h4, h5, h6, h7 => by
    rcases h6 with h6 | ⟨h6, h6'⟩
    · have hl := nodup_sub_len h6 h2
      cases n with
      | zero => omega
      | succ n =>
        have hg : names.getLast? = some (names.getLast h1) := List.getLast?_eq_some_getLast h1
        have hm := h2 _ (List.getLast_mem h1)
        cases hw : wishOf rs left (names.getLast h1) with
        | none => exact absurd hw (hf _ hm)
        | some w =>
          obtain ⟨k1, k2, k3⟩ := wishOf_ok hw
          unfold ringRun
          rw [if_pos h6]
          unfold lastOf
          rw [hg]
          show ∃ N Wi, (match wishOf rs left (names.getLast h1) with | some w => ringRun (wishOf rs left) n (names ++ [w.2.1]) (wishes ++ [w]) | none => (names, wishes)) = (N, Wi) ∧ _
          rw [hw]
          have e1 : names.dropLast ++ [names.getLast h1] = names := List.dropLast_concat_getLast h1
          refine ringRun_ok hf n _ _ (by simp) ?_ ?_ ?_ ?_ ?_ (by simp; omega)
          · intro s hs
            rcases List.mem_append.mp hs with hs | hs
            · exact h2 s hs
            · rw [List.mem_singleton.mp hs]; exact k3
          · intro v hv
            rcases List.mem_append.mp hv with hv | hv
            · exact h3 v hv
            · rw [List.mem_singleton.mp hv]; exact k1
          · rw [List.tail_append_of_ne_nil h1, h4]; simp
          · rw [List.dropLast_concat, List.map_append, ← h5, List.map_singleton, k2, e1]
          · rw [List.dropLast_concat]
            by_cases z : (names ++ [w.2.1]).Nodup
            · exact .inl z
            · exact .inr ⟨h6, z⟩
    · refine ⟨names, wishes, ?_, h3, h4, h5, h6, h6', h1⟩
      cases n with
      | zero => rfl
      | succ n => unfold ringRun; rw [if_neg h6']
theorem ring_of_names {rs : List (List Str)} {N : List Str} {Wi : List Wish} (h1 : ∀ w ∈ Wi, Wished rs w) (h2 : N.tail = Wi.map (fun w => w.2.1)) (h3 : N.dropLast = Wi.map (fun w => w.2.2)) (h4 : N.dropLast.Nodup) (h5 : ¬ N.Nodup) (h6 : N ≠ []) :
    ∃ l g, N.getLast? = some l ∧ N.findIdx? (· == l) = some g ∧ g ≤ Wi.length ∧ IsRing rs (Wi.drop g).reverse := by
  have e1 : N.dropLast ++ [N.getLast h6] = N := List.dropLast_concat_getLast h6
  generalize hi : N.dropLast = init at *
  generalize hl : N.getLast h6 = l at *
  have hm : l ∈ init := by
    apply Classical.byContradiction
    intro z
    apply h5
    rw [← e1, List.nodup_append]
    refine ⟨h4, by simp, fun a ha b hb => ?_⟩
    rw [List.mem_singleton] at hb
    subst hb
    intro e
    subst e
    exact z ha
  have hg : init.findIdx (· == l) < init.length := List.findIdx_lt_length_of_exists ⟨l, hm, by simp⟩
  refine ⟨l, init.findIdx (· == l), by rw [← e1]; simp, ?_, ?_, ?_⟩
  · rw [← e1, List.findIdx?_append, idx_some hm]; rfl
  · have : Wi.length = init.length := by rw [h3, List.length_map]
    omega
  generalize hgg : init.findIdx (· == l) = g at *
  have hat : init[g]? = some l := by
    have := List.findIdx_getElem (p := (· == l)) (xs := init) (w := by omega)
    rw [List.getElem?_eq_getElem hg]
    subst hgg
    rw [eq_of_beq this]
  have d1 : init.drop g = l :: init.drop (g + 1) := by
    rw [List.drop_eq_getElem_cons hg]
    rw [List.getElem?_eq_getElem hg] at hat
    injection hat with hat
    rw [hat]
  have d2 : (Wi.drop g).map (fun w => w.2.2) = l :: init.drop (g + 1) := by rw [List.map_drop, ← h3, d1]
  have d3 : (Wi.drop g).map (fun w => w.2.1) = init.drop (g + 1) ++ [l] := by
    rw [List.map_drop, ← h2, ← e1]
    rw [List.tail_append_of_ne_nil (by intro z; rw [z] at hg; simp at hg), ← List.drop_one, List.drop_append_of_le_length (by simp; omega), List.drop_drop]
    congr 2
    omega
  have nd : (l :: init.drop (g + 1)).Nodup := by rw [← d1]; exact h4.sublist (List.drop_sublist _ _)
  have hall : ∀ w ∈ (Wi.drop g).reverse, Wished rs w := fun w hw => h1 w (List.mem_of_mem_drop (List.mem_reverse.mp hw))
  have e2 : ((Wi.drop g).reverse.map fun w => w.2.1) = l :: (init.drop (g + 1)).reverse := by rw [List.map_reverse, d3]; simp
  have e3 : ((Wi.drop g).reverse.map fun w => w.2.2) = (init.drop (g + 1)).reverse ++ [l] := by rw [List.map_reverse, d2]; simp
  refine ⟨?_, hall, ?_, ?_⟩
  · cases hd : init.drop (g + 1) with
    | cons x r =>
      have := congrArg List.length e2
      rw [hd] at this
      simp at this
      simp only [List.length_reverse, List.length_drop] at this ⊢
      omega
    | nil =>
      exfalso
      rw [hd] at d2 d3
      cases hw : Wi.drop g with
      | nil => rw [hw] at d2; cases d2
      | cons w t =>
        rw [hw] at d2 d3
        simp only [List.map_cons, List.nil_append, List.cons.injEq] at d2 d3
        obtain ⟨row, _, _, _, hlt⟩ := hall w (by rw [hw]; simp)
        rw [d2.1, d3.1] at hlt
        omega
  · rw [e2]
    rw [List.nodup_cons] at nd ⊢
    exact ⟨fun h => nd.1 (List.mem_reverse.mp h), List.pairwise_reverse.mpr (nd.2.imp fun h => Ne.symm h)⟩
  · rw [e2, e3]; simp
end Dl
namespace Dl
open PySem PySem.Spec PyProof.Rows L2
abbrev cS (xs : List Str) : Cell := .lst ((sD xs).map W.d)
theorem atI_last {ds : List PyData} {d : PyData} (h : ds.getLast? = some d) : atI (ds.map W.d) (-1) = some (.d d) := by
  have hne : ds ≠ [] := fun e => by rw [e] at h; cases h
  have hl : 0 < ds.length := List.length_pos_iff.mpr hne
  unfold atI ixN
  rw [List.length_map, if_neg (by omega), if_pos (by omega)]
  show (ds.map W.d)[((-1 : Int) + ds.length).toNat]? = _
  rw [show ((-1 : Int) + ds.length).toNat = ds.length - 1 by omega, List.getElem?_map, ← List.getLast?_eq_getElem?, h]
  rfl
theorem wish_snoc (ws : List Wish) (w : Wish) : (ws.map wD).map W.d ++ [.d (wD w)] = ((ws ++ [w]).map wD).map W.d := by simp
theorem str_snoc (xs : List Str) (s : Str) : (sD xs).map W.d ++ [.d (.str s)] = (sD (xs ++ [s])).map W.d := by simp
theorem sp_ring {rs : List (List Str)} {left : List Str} {j : Nat} (g : GoodR rs) {O : Oh} {R : DK} {xe : Exn → Oh → Prop} [hl : Cl O j (cS left)] (hne : left ≠ []) (hz : left.length ≤ 100) (hf : ∀ a ∈ left, wishOf rs left a ≠ none)
    (h : R (.d (.tuple ((ringOf rs left).map wD))) O) : w_ring_among [.d (tR rs), .c j] O R xe := by
  obtain ⟨a0, t, rfl⟩ : ∃ a t, left = a :: t := by cases left with | nil => exact absurd rfl hne | cons a t => exact ⟨a, t, rfl⟩
  refine def_start rfl fun n l cl => ?_
  repeat refine Go.h ?_
  obtain ⟨N, Wi, hr, r1, r2, r3, r4, r5, r6⟩ := ringRun_ok hf ((a0 :: t).length + 1) [a0] [] (by simp) (by simp) (by simp) rfl rfl (.inl (by simp)) (by simp)
  refine while_go (fun m Γ O' => ∃ names wishes x4 x5, Γ = [some (.d (tR rs)), some (.c j), some (.c (n + 0)), some (.c (n + 1)), x4, x5] ∧ O' = O ++ [cS names, .lst ((wishes.map wD).map W.d)] ∧
    ringRun (wishOf rs (a0 :: t)) m names wishes = (N, Wi) ∧ (∀ s ∈ names, s ∈ a0 :: t) ∧ (m + names.length = (a0 :: t).length + 2) ∧ names ≠ [] ∧ wishes.length + 1 = names.length)
    (n := (a0 :: t).length + 1) ⟨[a0], [], none, none, rfl, rfl, hr, by simp, by simp, by simp, rfl⟩ ?_
  rintro m Γ O' ⟨names, wishes, x4, x5, rfl, rfl, e, hs, hm, hn, hwn⟩ C hC
  repeat refine Go.h ?_
  refine go_lenSet (by simp at hm; simp at hz; omega) ?_
  repeat refine Go.h ?_
  have hlen : ((sD names).map W.d).length = names.length := by simp
  rw [hlen]
  refine dcase (fun z => ?_) (fun z => ?_)
  · have nd : names.Nodup := nodup_of_met (by omega)
    have hle := nodup_sub_len nd hs
    obtain ⟨m, rfl⟩ : ∃ k, m = k + 1 := ⟨m - 1, by omega⟩
    have hg : names.getLast? = some (names.getLast hn) := List.getLast?_eq_some_getLast hn
    unfold ringRun at e
    rw [if_pos nd] at e
    unfold lastOf at e
    rw [hg] at e
    have e : (match wishOf rs (a0 :: t) (names.getLast hn) with | some w => ringRun (wishOf rs (a0 :: t)) m (names ++ [w.2.1]) (wishes ++ [w]) | none => (names, wishes)) = (N, Wi) := e
    have hm' := hs _ (List.getLast_mem hn)
    cases hw : wishOf rs (a0 :: t) (names.getLast hn) with
    | none => exact absurd hw (hf _ hm')
    | some w =>
      rw [hw] at e
      obtain ⟨k1, k2, k3⟩ := wishOf_ok hw
      repeat refine Go.h ?_
      refine go_ix (d := .str (names.getLast hn)) (atI_last (by rw [List.getLast?_map, hg]; rfl)) ?_
      repeat refine Go.h ?_
      refine sp_wish g inferInstance ?_
      rw [hw]
      repeat refine Go.h ?_
      have hwl : wishes.length ≤ 200 := by simp at hle hz; omega
      refine go_append (by simp; omega) (wish_snoc wishes w) ?_
      repeat refine Go.h ?_
      refine go_append (by simp at hle ⊢; simp at hz; omega) (str_snoc names w.2.1) ?_
      repeat refine Go.h ?_
      refine hC m _ _ rfl ⟨names ++ [w.2.1], wishes ++ [w], _, _, rfl, rfl, e, ?_, ?_, by simp, by simp; omega⟩
      · intro s hs'
        rcases List.mem_append.mp hs' with hs' | hs'
        · exact hs s hs'
        · rw [List.mem_singleton.mp hs']; exact k3
      · rw [List.length_append, List.length_singleton]; omega
  · have nd : ¬ names.Nodup := fun h => z (by rw [met_of_nodup h])
    have e : names = N ∧ wishes = Wi := by
      cases m with
      | zero => cases e; exact ⟨rfl, rfl⟩
      | succ m =>
        unfold ringRun at e
        rw [if_neg nd] at e
        cases e; exact ⟨rfl, rfl⟩
    obtain ⟨rfl, rfl⟩ := e
    obtain ⟨l0, g0, q1, q2, q3, q4⟩ := ring_of_names r1 r2 r3 r4 r5 r6
    repeat refine Go.h ?_
    refine go_ix (d := .str l0) (atI_last (by rw [List.getLast?_map, q1]; rfl)) ?_
    repeat refine Go.h ?_
    refine go_indexL rfl (flat_sD _) (first_sD q2) ?_
    repeat refine Go.h ?_
    rw [cut_drop, ← List.map_drop, ← List.map_reverse]
    have er : ringOf rs (a0 :: t) = (wishes.drop g0).reverse := by
      unfold ringOf
      rw [show (a0 :: t).take 1 = [a0] from rfl, hr]
      dsimp only
      rw [q1]
      show (wishes.drop ((names.findIdx? (· == l0)).getD 0)).reverse = _
      rw [q2]; rfl
    rw [er] at h
    exact h
/-! ### merged -/
def freeOf (rs : List (List Str)) (left : List Str) : List Str := left.filter fun a => (wishOf rs left a).isNone
def mergeGo (rs : List (List Str)) : Nat → List Str → List Str → Except (List Wish) (List Str)
  | 0, _, found => .ok found
  | n + 1, left, found => if left = [] then .ok found else match freeOf rs left with
    | [] => .error (ringOf rs left)
    | a :: _ => mergeGo rs n (left.erase a) (found ++ [a])
def mergedOf (rs : List (List Str)) : Except (List Wish) (List Str) := mergeGo rs ((namesOf rs).length + 1) (namesOf rs) []
def rgD (ring : List Wish) : PyData := .tuple (ring.map wD)
def Told (rs : List (List Str)) (R : DK) (xe : Exn → Oh → Prop) (O : Oh) : Prop := match mergedOf rs with
  | .ok order => R (.d (tS order)) O
  | .error ring => xe ⟨"Ring", [("ring", rgD ring), ("kind", .none)]⟩ O
theorem free_none {rs : List (List Str)} {left : List Str} (h : freeOf rs left = []) : ∀ a ∈ left, wishOf rs left a ≠ none := by
  intro a ha e
  have : a ∈ freeOf rs left := List.mem_filter.mpr ⟨ha, by rw [e]; rfl⟩
  rw [h] at this
  cases this
theorem isNone_oD (o : Option Wish) : isNone (.d (oD o)) = o.isNone := by cases o <;> rfl
theorem map_erase {α β : Type} (f : α → β) : ∀ (xs : List α) (m : Nat), (xs.eraseIdx m).map f = (xs.map f).eraseIdx m
  | [], _ => by simp
  | _ :: _, 0 => rfl
  | x :: r, m + 1 => by simp [map_erase f r m]
theorem erase_idx {xs : List Str} {a : Str} {m : Nat} (h : xs.findIdx? (· == a) = some m) : xs.eraseIdx m = xs.erase a := by
  induction xs generalizing m with
  | nil => cases h
  | cons x r ih =>
    rw [List.findIdx?_cons] at h
    by_cases z : x = a
    · subst z
      simp at h
      subst h
      simp
    · have e : (x == a) = false := by simpa using z
      rw [e] at h
      simp only [Bool.false_eq_true, if_false, Option.map_eq_some_iff] at h
      obtain ⟨i, hi, rfl⟩ := h
      rw [List.erase_cons_tail (by simpa using z), List.eraseIdx_cons_succ, ih hi]
theorem sp_merged {rs : List (List Str)} (g : GoodR rs) {O : Oh} {R : DK} {xe : Exn → Oh → Prop} (h : Told rs R xe O) : w_merged [.d (tR rs)] O R xe := by
  refine def_start rfl fun n l cl => ?_
  repeat refine Go.h ?_
  refine sp_names_of g ?_
  repeat refine Go.h ?_
  have hN : (namesOf rs).length ≤ 48 := Nat.le_trans (met_len _) g.flat
  refine while_go (fun m Γ O' => ∃ left found x3 x4, Γ = [some (.d (tR rs)), some (.c (n + 0)), some (.c (n + 1)), x3, x4] ∧ O' = O ++ [cS left, cS found] ∧ mergeGo rs m left found = mergedOf rs ∧ left.length < m ∧ left.length + found.length ≤ 48)
    (n := (namesOf rs).length + 1) ⟨namesOf rs, [], none, none, rfl, rfl, rfl, by omega, by simpa using hN⟩ ?_
  rintro m Γ O' ⟨left, found, x3, x4, rfl, rfl, e, hm, hz⟩ C hC
  repeat refine Go.h ?_
  obtain ⟨m, rfl⟩ : ∃ k, m = k + 1 := ⟨m - 1, by omega⟩
  unfold mergeGo at e
  unfold Told at h
  rw [← e] at h
  refine dcase (fun z => ?_) (fun z => ?_)
  · rw [if_neg z] at h e
    repeat refine Go.h ?_
    refine lc_mapD PyData.str (fun a => (wishOf rs left a).isNone) PyData.str (Cl.e (O := O ++ [cS left, cS found]) (j := n + 0)) (by omega) (fun a ha C2 hC2 => ?_) (fun a ha _ C2 hC2 => ?_) ?_
    · repeat refine Go.h ?_
      refine sp_wish (left := left) g inferInstance ?_
      repeat refine Go.h ?_
      rw [if_neg Bool.false_ne_true, isNone_oD]
      exact hC2
    · repeat refine Go.h ?_
      exact hC2
    repeat refine Go.h ?_
    cases hf : left.filter (fun a => (wishOf rs left a).isNone) with
    | nil =>
      have hf : freeOf rs left = [] := hf
      rw [hf] at h
      rw [decide_eq_true rfl]
      repeat refine Go.h ?_
      refine sp_ring g z (by omega) (free_none hf) ?_
      repeat refine Go.h ?_
      refine ⟨rfl, ?_⟩
      repeat refine Go.h ?_
      exact h
    | cons a t =>
      have hf' : freeOf rs left = a :: t := hf
      have ha : a ∈ left := (List.mem_filter.mp (show a ∈ freeOf rs left by rw [hf']; exact List.mem_cons_self)).1
      rw [hf'] at h e
      rw [decide_eq_false (by simp)]
      repeat refine Go.h ?_
      refine go_append (by simp; omega) (str_snoc found a) ?_
      repeat refine Go.h ?_
      refine go_remove (m := left.findIdx (· == a)) (ws' := (sD (left.erase a)).map W.d) rfl (flat_sD _) (first_sD (idx_some ha)) ?_ ?_
      · rw [← map_erase, ← map_erase, erase_idx (idx_some ha)]
      repeat refine Go.h ?_
      have hle := List.length_erase_of_mem ha
      have hpos := List.length_pos_of_mem ha
      refine hC m _ _ rfl ⟨left.erase a, found ++ [a], _, _, rfl, rfl, e, by omega, by rw [List.length_append, List.length_singleton]; omega⟩
  · have z : left = [] := Classical.byContradiction z
    subst z
    rw [if_pos rfl] at h
    repeat refine Go.h ?_
    exact h
end Dl
namespace Dl
open PySem PySem.Spec PyProof.Rows L2
/-! ### what merged tells -/
theorem wishFrom_none {left : List Str} {a : Str} : ∀ {k : Nat} {q : List (List Str)}, wishFrom left a k q = none → ∀ row ∈ q, a ∈ row → ahead left row a = []
  | _, [], _, row, h, _ => by cases h
  | k, r :: q, h, row, hm, ha => by
    unfold wishFrom at h
    by_cases z : a ∈ r
    · rw [if_pos z] at h
      cases hh : ahead left r a with
      | cons b t => rw [hh] at h; cases h
      | nil =>
        rw [hh] at h
        rcases List.mem_cons.mp hm with rfl | hm
        · exact hh
        · exact wishFrom_none h row hm ha
    · rw [if_neg z] at h
      rcases List.mem_cons.mp hm with rfl | hm
      · exact absurd ha z
      · exact wishFrom_none h row hm ha
theorem filter_split {row left : List Str} {a : Str} (nd : row.Nodup) (nl : left.Nodup) (ha : a ∈ row) (hl : a ∈ left) (h : ahead left row a = []) :
    row.filter (fun s => decide (s ∈ left)) = a :: row.filter (fun s => decide (s ∈ left.erase a)) := by
  have hi : row.findIdx (· == a) < row.length := List.findIdx_lt_length_of_exists ⟨a, ha, by simp⟩
  have hat : row[row.findIdx (· == a)] = a := by
    have := List.findIdx_getElem (p := (· == a)) (xs := row) (w := hi)
    exact eq_of_beq this
  have e : row = row.take (row.findIdx (· == a)) ++ a :: row.drop (row.findIdx (· == a) + 1) := by
    conv => lhs; rw [← List.take_append_drop (row.findIdx (· == a)) row, List.drop_eq_getElem_cons hi, hat]
  unfold ahead at h
  generalize row.take (row.findIdx (· == a)) = u at *
  generalize row.drop (row.findIdx (· == a) + 1) = v at *
  subst e
  have h2 : u.filter (fun s => decide (s ∈ left.erase a)) = [] := by
    rw [List.filter_eq_nil_iff] at h ⊢
    intro s hs z
    exact h s hs (by have := of_decide_eq_true z; exact decide_eq_true (List.mem_of_mem_erase this))
  have h3 : v.filter (fun s => decide (s ∈ left.erase a)) = v.filter (fun s => decide (s ∈ left)) := by
    apply List.filter_congr
    intro s hs
    have hne : s ≠ a := by
      rintro rfl
      have := (List.nodup_append.mp nd).2.1
      rw [List.nodup_cons] at this
      exact this.1 hs
    simp [List.mem_erase_of_ne hne]
  rw [List.filter_append, h, List.filter_append, h2, List.filter_cons_of_pos (by simpa using hl), List.filter_cons_of_neg (by simp [List.Nodup.mem_erase_iff nl]), h3]
  rfl
structure Order (rs : List (List Str)) (order : List Str) : Prop where
  perm : order.Perm (namesOf rs)
  keep : ∀ r ∈ rs, order.filter (fun s => decide (s ∈ r)) = r
theorem mergeGo_ok {rs : List (List Str)} (hr : ∀ r ∈ rs, r.Nodup) : ∀ (n : Nat) (left found : List Str), left.length < n → left.Nodup → (found ++ left).Perm (namesOf rs) → (∀ r ∈ rs, found.filter (fun s => decide (s ∈ r)) ++ r.filter (fun s => decide (s ∈ left)) = r) →
    match mergeGo rs n left found with
    | .ok order => Order rs order
    | .error ring => IsRing rs ring
  | 0, left, found, hn, _, _, _ => by omega
  | n + 1, left, found, hn, nd, hp, hk => by
    unfold mergeGo
    by_cases z : left = []
    · rw [if_pos z]
      subst z
      rw [List.append_nil] at hp
      refine ⟨hp, fun r hr' => ?_⟩
      have := hk r hr'
      have e : r.filter (fun s => decide (s ∈ ([] : List Str))) = [] := List.filter_eq_nil_iff.mpr fun s _ h => by cases of_decide_eq_true h
      rw [e, List.append_nil] at this
      exact this
    · rw [if_neg z]
      cases hf : freeOf rs left with
      | nil =>
        show IsRing rs (ringOf rs left)
        obtain ⟨a0, t, rfl⟩ : ∃ a t, left = a :: t := by cases left with | nil => exact absurd rfl z | cons a t => exact ⟨a, t, rfl⟩
        obtain ⟨N, Wi, e, r1, r2, r3, r4, r5, r6⟩ := ringRun_ok (free_none hf) ((a0 :: t).length + 1) [a0] [] (by simp) (by simp) (by simp) rfl rfl (.inl (by simp)) (by simp)
        obtain ⟨l0, g0, q1, q2, q3, q4⟩ := ring_of_names r1 r2 r3 r4 r5 r6
        have er : ringOf rs (a0 :: t) = (Wi.drop g0).reverse := by
          unfold ringOf
          rw [show (a0 :: t).take 1 = [a0] from rfl, e]
          dsimp only
          rw [q1]
          show (Wi.drop ((N.findIdx? (· == l0)).getD 0)).reverse = _
          rw [q2]; rfl
        rw [er]
        exact q4
      | cons a t =>
        have ha : a ∈ freeOf rs left := by rw [hf]; exact List.mem_cons_self
        obtain ⟨ha, hw⟩ := List.mem_filter.mp ha
        have hw : wishOf rs left a = none := by simpa using hw
        have hle := List.length_erase_of_mem ha
        have hpos := List.length_pos_of_mem ha
        refine mergeGo_ok hr n (left.erase a) (found ++ [a]) (by omega) (nd.sublist List.erase_sublist) ?_ fun r hr' => ?_
        · refine List.Perm.trans ?_ hp
          rw [List.append_assoc]
          exact List.Perm.append_left _ (List.perm_cons_erase ha).symm
        · have hk' := hk r hr'
          by_cases har : a ∈ r
          · rw [filter_split (hr r hr') nd har ha (wishFrom_none hw r hr' har)] at hk'
            rw [List.filter_append, List.filter_cons_of_pos (by simpa using har), List.append_assoc]
            exact hk'
          · have e : r.filter (fun s => decide (s ∈ left.erase a)) = r.filter (fun s => decide (s ∈ left)) := by
              apply List.filter_congr
              intro s hs
              have hne : s ≠ a := by rintro rfl; exact har hs
              simp [List.mem_erase_of_ne hne]
            rw [List.filter_append, List.filter_cons_of_neg (by simpa using har), e, List.filter_nil, List.append_nil]
            exact hk'
theorem namesOf_mem {rs : List (List Str)} {r : List Str} {s : Str} (hr : r ∈ rs) (hs : s ∈ r) : s ∈ namesOf rs := mem_met (List.mem_flatten.mpr ⟨r, hr, hs⟩)
theorem merged_ok {rs : List (List Str)} (hr : ∀ r ∈ rs, r.Nodup) : match mergedOf rs with
    | .ok order => Order rs order
    | .error ring => IsRing rs ring := by
  refine mergeGo_ok hr _ _ _ (Nat.lt_succ_self _) (met_nodup _) (by simp) fun r hr' => ?_
  rw [List.filter_nil, List.nil_append]
  rw [List.filter_eq_self]
  intro s hs
  exact decide_eq_true (namesOf_mem hr' hs)
end Dl
namespace Dl
open PySem PySem.Spec PyProof.Rows L2
/-! ### sorted, all -/
class BoolsD (ds : List PyData) (bs : outParam (List Bool)) : Prop where
  e : boolsD ds = some bs
theorem boolsD_mapf {α : Type} (f : α → Bool) (xs : List α) : boolsD (xs.map fun x => .bool (f x)) = some (xs.map f) := by
  induction xs with
  | nil => rfl
  | cons x r ih => show (match boolsD (r.map fun x => .bool (f x)) with | some bs => some (f x :: bs) | none => none) = _; rw [ih]; rfl
instance {α : Type} {f : α → Bool} {xs : List α} : BoolsD (xs.map fun x => .bool (f x)) (xs.map f) := ⟨boolsD_mapf f xs⟩
theorem go_all {ds : List PyData} {bs : List Bool} {O : Oh} {R : DK} [b : BoolsD ds bs] (h : R (.d (.bool (bs.all id))) O) : dAll [.d (.list ds)] O R := by
  unfold dAll; dsimp only; rw [b.e]; exact h
instance {ds : List PyData} {bs : List Bool} {O : Oh} {R : DK} [b : BoolsD ds bs] : Go (dAll [.d (.list ds)] O R) (R (.d (.bool (bs.all id))) O) := ⟨go_all⟩
theorem alike_sD (xs : List Str) : alikeB (sD xs) = true := by
  unfold alikeB
  rw [List.all_eq_true]
  intro d hd
  obtain ⟨s, _, rfl⟩ := List.mem_map.mp hd
  rw [List.all_eq_true]
  intro e he
  obtain ⟨t, _, rfl⟩ := List.mem_map.mp he
  rfl
theorem sortable_sD (xs : List Str) : sortableB (sD xs) = true := by
  unfold sortableB
  rw [Bool.or_eq_true]
  right
  rw [List.all_eq_true]
  intro d hd
  obtain ⟨s, _, rfl⟩ := List.mem_map.mp hd
  rfl
class SrtS (x : W) (O : Oh) (xs : outParam (List Str)) : Prop where
  n : asDk x O = none
  e : asS x O = some ((sD xs).map W.d)
instance {O : Oh} {xs : List Str} : SrtS (.d (.tuple (xs.map PyData.str))) O xs := ⟨rfl, rfl⟩
instance {O : Oh} {xs : List Str} : SrtS (.d (.list (xs.map PyData.str))) O xs := ⟨rfl, rfl⟩
instance {O : Oh} {j : Nat} {xs : List Str} [g : Cl O j (.lst ((xs.map PyData.str).map W.d))] : SrtS (.c j) O xs := ⟨(inferInstance : NoDk (.c j) O).e, by unfold asS; dsimp only; rw [g.e]⟩
theorem go_sorted {x : W} {O : Oh} {xs : List Str} {R : DK} [q : SrtS x O xs] (h : R (.d (lS (srtS xs))) O) : dSorted [x] O R := by
  unfold dSorted; dsimp only; rw [q.n]; dsimp only; rw [q.e]; dsimp only; rw [datas_sD]; dsimp only
  rw [srtD_strs]
  exact ⟨alike_sD xs, sortable_sD xs, shp_sD 40 xs, h⟩
instance {x : W} {O : Oh} {xs : List Str} {R : DK} [q : SrtS x O xs] : Go (dSorted [x] O R) (R (.d (lS (srtS xs))) O) := ⟨go_sorted⟩
end Dl
namespace Dl
open PySem PySem.Spec PyProof.Rows L2
class AtN {α : Type} (xs : List α) (k : Nat) (x : outParam α) : Prop where
  e : xs[k]? = some x
instance {α : Type} {en : α → PyData} {xs : List α} {k : Nat} {x : α} [a : AtN xs k x] : Ix (xs.map en) (k : Nat) (en x) := ⟨atI_map (by rw [List.getElem?_map, a.e]; rfl)⟩
/-! #### + of lists, and slices of what is new -/
theorem go_addL {O : Oh} {R : DK} {xs ys : List Str} (hz : xs.length + ys.length ≤ 1000000) (h : R (.d (lS (xs ++ ys))) O) : dAdd (.d (lS xs)) (.d (lS ys)) O R := by
  show (sD xs).length + (sD ys).length ≤ 1000000 ∧ R (.d (.list (sD xs ++ sD ys))) O
  rw [List.length_map, List.length_map, ← List.map_append]
  exact ⟨hz, h⟩
end Dl
namespace Dl
open PySem PySem.Spec PyProof.Rows L2
/-! ### lists of numbers -/
theorem eqv_int (a b : Int) : PyData.eqv (.int a) (.int b) = decide (a = b) := by simp [PyData.eqv]; rfl
theorem idx_at {order : List Str} (nd : order.Nodup) {i : Nat} (hi : i < order.length) : order.findIdx (· == order[i]) = i := by
  have hm : order[i] ∈ order := List.getElem_mem hi
  have hlt : order.findIdx (· == order[i]) < order.length := List.findIdx_lt_length_of_exists ⟨_, hm, by simp⟩
  have := List.findIdx_getElem (p := (· == order[i])) (xs := order) (w := hlt)
  exact (List.getElem_inj nd).mp (eq_of_beq this)
theorem places_up {order r : List Str} (nd : order.Nodup) (k : order.filter (fun s => decide (s ∈ r)) = r) : (r.map fun s => (order.findIdx (· == s) : Int)).Pairwise fun a b => leI a b = true := by
  rw [← k]
  rw [List.pairwise_map]
  refine List.Pairwise.sublist List.filter_sublist ?_
  rw [List.pairwise_iff_getElem]
  intro i j hi hj hlt
  rw [idx_at nd hi, idx_at nd hj]
  exact decide_eq_true (by omega)
theorem Order.nd {rs : List (List Str)} {order : List Str} (k : Order rs order) : order.Nodup := k.perm.nodup_iff.mpr (met_nodup _)
theorem Order.mem {rs : List (List Str)} {order : List Str} (k : Order rs order) {r : List Str} {s : Str} (hr : r ∈ rs) (hs : s ∈ r) : s ∈ order := k.perm.mem_iff.mpr (namesOf_mem hr hs)
end Dl
namespace Dl
open PySem PySem.Spec PyProof.Rows L2
/-! ### pots -/
abbrev potC (x y : Int) : Cell := .lst (([.int x, .int y] : List PyData).map W.d)
def PotOk (x y : Int) : Prop := 0 ≤ x ∧ 0 ≤ y ∧ y < 1099511627776
def PotAt (O : Oh) (p : Nat) : Prop := ∃ x y, O[p]? = some (potC x y) ∧ PotOk x y
def Chg (p : Nat) (O O' : Oh) : Prop := p < O.length ∧ ∃ x y, O' = O.set p (potC x y) ∧ PotOk x y
theorem Chg.pot {p : Nat} {O O' : Oh} (h : Chg p O O') : PotAt O' p := by
  obtain ⟨hp, x, y, rfl, ok⟩ := h
  exact ⟨x, y, by rw [List.getElem?_set_self hp], ok⟩
theorem Chg.trans {p : Nat} {O O1 O2 : Oh} (h : Chg p O O1) (h2 : Chg p O1 O2) : Chg p O O2 := by
  obtain ⟨hp, x, y, rfl, ok⟩ := h
  obtain ⟨_, x2, y2, rfl, ok2⟩ := h2
  exact ⟨hp, x2, y2, by rw [List.set_set], ok2⟩
theorem PotAt.lt {O : Oh} {p : Nat} (h : PotAt O p) : p < O.length := by
  obtain ⟨x, y, e, _⟩ := h
  exact (List.getElem?_eq_some_iff.mp e).1
theorem PotAt.chg {O : Oh} {p : Nat} (h : PotAt O p) : Chg p O O := by
  have hl := h.lt
  obtain ⟨x, y, e, ok⟩ := h
  refine ⟨hl, x, y, ?_, ok⟩
  rw [List.getElem?_eq_getElem hl] at e
  injection e with e
  rw [← e, List.set_getElem_self]
theorem PotAt.app {O L : Oh} {p : Nat} (h : PotAt O p) : PotAt (O ++ L) p := by
  have hl := h.lt
  obtain ⟨x, y, e, ok⟩ := h
  exact ⟨x, y, by rw [List.getElem?_append_left hl]; exact e, ok⟩
theorem Chg.app {p : Nat} {O L S : Oh} (h : Chg p (O ++ L) S) (hp : p < O.length) : ∃ O1, S = O1 ++ L ∧ Chg p O O1 := by
  obtain ⟨_, x, y, rfl, ok⟩ := h
  exact ⟨O.set p (potC x y), by rw [List.set_append_left _ _ hp], hp, x, y, rfl, ok⟩
theorem Chg.len {p : Nat} {O O1 : Oh} (h : Chg p O O1) : O1.length = O.length := by
  obtain ⟨_, x, y, rfl, _⟩ := h
  rw [List.length_set]
theorem Chg.clo {p n : Nat} {O O1 : Oh} (h : Chg p O O1) (c : CloC n O) : CloC n O1 := by
  obtain ⟨_, x, y, rfl, _⟩ := h
  refine ⟨?_⟩
  have := c.e
  unfold Clo at this ⊢
  rw [List.all_eq_true] at this ⊢
  intro z hz
  rcases List.mem_or_eq_of_mem_set hz with hz | rfl
  · exact this z hz
  · rfl
/-- the store at the start, and as it is, but for the pot -/
structure Pt (p n : Nat) (O0 O : Oh) : Prop where
  chg : Chg p O0 O
  l : Len O n
  c : CloC n O
theorem Pt.start {p n : Nat} {O : Oh} (h : PotAt O p) (l : Len O n) (c : CloC n O) : Pt p n O O := ⟨h.chg, l, c⟩
theorem Pt.lt {p n : Nat} {O0 O : Oh} (h : Pt p n O0 O) : p < O.length := by rw [h.chg.len]; exact h.chg.1
theorem Pt.step {p n : Nat} {O0 O L S : Oh} (h : Pt p n O0 O) (k : Chg p (O ++ L) S) : ∃ O1, S = O1 ++ L ∧ Pt p n O0 O1 := by
  obtain ⟨O1, e, k⟩ := k.app h.lt
  exact ⟨O1, e, h.chg.trans k, ⟨by rw [k.len]; exact h.l.e⟩, k.clo h.c⟩
/-- a def that draws from the pot at p -/
def Draws (p : Nat) (f : DFn) (args : List W) (Q : PyData → Prop) : Prop := ∀ (O : Oh) (R : DK) (xe : Exn → Oh → Prop), PotAt O p → (∀ v O', Q v → Chg p O O' → R (.d v) O') → f args O R xe
theorem pt_call {p n : Nat} {f : DFn} {args : List W} {Q : PyData → Prop} {O0 O L : Oh} {R : DK} {xe : Exn → Oh → Prop} (d : Draws p f args Q) (h : Pt p n O0 O)
    (k : ∀ v O1, Q v → Pt p n O0 O1 → R (.d v) (O1 ++ L)) : f args (O ++ L) R xe := by
  refine d _ _ _ (PotAt.app (h.chg.pot)) fun v O' hq hc => ?_
  obtain ⟨O1, rfl, h1⟩ := h.step hc
  exact k v O1 hq h1
theorem digit_draws {p : Nat} {m : Int} (hm : 0 < m) (hz : m ≤ 4611686018427387904) : Draws p w__law_digit [.c p, .d (.int m)] fun v => ∃ d : Nat, v = .int d ∧ (d : Int) < m := by
  intro O R xe hp h
  have hlt := hp.lt
  obtain ⟨x, y, e, ok⟩ := hp
  obtain ⟨ok1, ok2, ok3⟩ := id ok
  refine def_start rfl fun n l cl => ?_
  haveI : Cl O p (potC x y) := ⟨e⟩
  repeat refine Go.h ?_
  refine dcase (fun hx => ?_) (fun hx => ?_)
  · repeat refine Go.h ?_
    refine ⟨hm, ?_⟩
    repeat refine Go.h ?_
    refine ⟨⟨hm, ?_⟩, ?_⟩
    · have h1 : m.natAbs < 2 ^ 63 := by omega
      have h2 : m.natAbs.log2 < 63 := (Nat.log2_lt (by omega)).mpr h1
      omega
    repeat refine Go.h ?_
    have hc : Chg p O (O.set p (potC (x / m) y)) := ⟨hlt, _, _, rfl, Int.ediv_nonneg ok1 (by omega), ok2, ok3⟩
    refine putix_lst (m := 0) rfl ?_
    rw [List.set_append_left _ _ hlt]
    haveI := hc.clo cl
    haveI : Len (O.set p (potC (x / m) y)) n := ⟨by rw [hc.len]; exact l.e⟩
    show dRet _ _ _ _ (O.set p (potC (x / m) y) ++ [])
    repeat refine Go.h ?_
    refine h _ _ ⟨(x % m).toNat, ?_, ?_⟩ hc
    · rw [Int.toNat_of_nonneg (Int.emod_nonneg _ (by omega))]
    · rw [Int.toNat_of_nonneg (Int.emod_nonneg _ (by omega))]; exact Int.emod_lt_of_pos _ hm
  · repeat refine Go.h ?_
    refine ⟨.inl ⟨by omega, by omega⟩, ?_⟩
    repeat refine Go.h ?_
    refine ⟨by decide, ?_⟩
    repeat refine Go.h ?_
    have hc : Chg p O (O.set p (potC x ((y * 39373 + 20011) % 2147483647))) := ⟨hlt, _, _, rfl, ok1, Int.emod_nonneg _ (by decide), Int.lt_trans (Int.emod_lt_of_pos _ (by decide)) (by decide)⟩
    refine putix_lst (m := 1) rfl ?_
    rw [List.set_append_left _ _ hlt]
    haveI := hc.clo cl
    have y2 := Int.emod_nonneg (y * 39373 + 20011) (b := 2147483647) (by decide)
    have y3 := Int.emod_lt_of_pos (y * 39373 + 20011) (b := 2147483647) (by decide)
    generalize (y * 39373 + 20011) % 2147483647 = z at *
    haveI : Len (O.set p (potC x z)) n := ⟨by rw [hc.len]; exact l.e⟩
    haveI : Cl (O.set p (potC x z)) p (potC x z) := ⟨List.getElem?_set_self hlt⟩
    show dRet _ _ _ _ (O.set p (potC x z) ++ [])
    repeat refine Go.h ?_
    refine ⟨.inl ⟨by omega, by omega⟩, ?_⟩
    repeat refine Go.h ?_
    refine ⟨by decide, ?_⟩
    repeat refine Go.h ?_
    refine ⟨⟨by decide, by decide⟩, ?_⟩
    repeat refine Go.h ?_
    refine ⟨hm, ?_⟩
    repeat refine Go.h ?_
    refine h _ _ ⟨(z * z % 2147483563 / 11 % m).toNat, ?_, ?_⟩ hc
    · rw [Int.toNat_of_nonneg (Int.emod_nonneg _ (by omega))]
    · rw [Int.toNat_of_nonneg (Int.emod_nonneg _ (by omega))]; exact Int.emod_lt_of_pos _ hm
end Dl
namespace Dl
open PySem PySem.Spec PyProof.Rows L2
/-! ### letters -/
abbrev sg (c : Nat) : Str := ⟨#[c]⟩
theorem len_cps (s : Str) : s.length = s.cps.toList.length := rfl
theorem letters_at : ∀ d : Nat, d < 26 → ("abcdefghijklmnopqrstuvwxyz" : Str).cps.toList[d]? = some (97 + d) := by decide +kernel
theorem go_ixS {s : Str} {i : Int} {c : Nat} {O : Oh} {R : DK} (hl : s.length ≤ 1000000) (hc : atI s.cps.toList i = some c) (h : R (.d (.str (sg c))) O) : dIx2 (.d (.str s)) (.d (.int i)) O R := by
  show (s.length ≤ 1000000 ∧ _)
  refine ⟨hl, ?_⟩
  rw [hc]
  exact h
theorem go_letter {d : Nat} {O : Oh} {R : DK} (hd : d < 26) (h : R (.d (.str (sg (97 + d)))) O) : dIx2 (.d (.str "abcdefghijklmnopqrstuvwxyz")) (.d (.int (d : Nat))) O R :=
  go_ixS (by decide +kernel) (atI_nat (letters_at d hd)) h
def kJoin2 (z : Str) (R : DK) : DK := fun x O2 => match asS x O2 with
  | some ws => (match datas ws with
    | some ds => (match strsD ds with
      | some ys => (ys.map (·.length)).sum + ys.length * z.length ≤ 1000000 ∧ R (.d (.str (Txt.join z ys))) O2
      | none => False)
    | none => False)
  | none => False
def kJoin1 (wa : DEx) (Γ : Gm) (R : DK) (xe : DX) : DK := fun o O1 => match o with
  | .d (.str z) => wa Γ O1 (kJoin2 z R) xe
  | _ => False
instance {R : DK} {Γ : Gm} {O : Oh} {xe : DX} {wo wa : DEx} : Go (dJoin wo wa Γ O R xe) (wo Γ O (kJoin1 wa Γ R xe) xe) := ⟨fun h => h⟩
instance {R : DK} {Γ : Gm} {O : Oh} {xe : DX} {wa : DEx} {z : Str} : Go (kJoin1 wa Γ R xe (.d (.str z)) O) (wa Γ O (kJoin2 z R) xe) := ⟨fun h => h⟩
theorem go_join {x : W} {O : Oh} {ys : List Str} {z : Str} {R : DK} [q : SrtS x O ys] (hz : (ys.map (·.length)).sum + ys.length * z.length ≤ 1000000) (h : R (.d (.str (Txt.join z ys))) O) : kJoin2 z R x O := by
  unfold kJoin2; rw [q.e]; dsimp only; rw [datas_sD]; dsimp only; rw [strsD_map]; exact ⟨hz, h⟩
theorem sum_len {ys : List Str} (h : ∀ y ∈ ys, y.length ≤ 1) : (ys.map (·.length)).sum ≤ ys.length := by
  induction ys with
  | nil => simp
  | cons y r ih =>
    have h1 := h y List.mem_cons_self
    have h2 := ih fun y hy => h y (List.mem_cons_of_mem _ hy)
    simp only [List.map_cons, List.sum_cons, List.length_cons]
    omega
theorem strOk_sg {c : Nat} (h : c < 1114112) : PyData.strOk (sg c) = true := by
  unfold PyData.strOk; simp [h]
theorem strOk_join0 {ys : List Str} (h : ∀ y ∈ ys, PyData.strOk y = true) : PyData.strOk (Txt.join "" ys) = true := strOk_join (by decide +kernel) (List.all_eq_true.mpr h)
theorem go_slS {s : Str} {lo hi : Option Int} {O : Oh} {R : DK} (hl : s.length ≤ 1000000) (h : R (.d (.str (cutS s lo hi))) O) : dSl (.d (.str s)) lo hi O R := ⟨hl, h⟩
theorem len_app (a b : Str) : (a ++ b).length = a.length + b.length := by
  show (a.cps ++ b.cps).size = _
  rw [Array.size_append]; rfl
theorem go_addS {a b : Str} {O : Oh} {R : DK} (hl : a.length + b.length ≤ 1000000) (h : R (.d (.str (a ++ b))) O) : dAdd (.d (.str a)) (.d (.str b)) O R := ⟨hl, h⟩
def cand (u : Str) (t : Nat) : Str := u ++ sg (97 + t) ++ "q"
theorem cps_app (a b : Str) : (a ++ b).cps.toList = a.cps.toList ++ b.cps.toList := by
  show (a.cps ++ b.cps).toList = _
  rw [Array.toList_append]
theorem cand_inj {u : Str} {s t : Nat} (h : cand u s = cand u t) : s = t := by
  have h := congrArg (fun x : Str => x.cps.toList) h
  unfold cand at h
  simp only [cps_app, List.append_assoc] at h
  have h := List.append_cancel_left h
  injection h with h _
  omega
theorem cut_len6 (s : Str) : (cutS s none (some 6)).length ≤ 6 := by
  unfold cutS
  rw [HT.sIx_none, show (6 : Int) = ((6 : Nat) : Int) from rfl, HT.sIx_nat]
  show (List.toArray _).size ≤ 6
  rw [List.size_toArray, List.length_take]
  omega
theorem cand_ok {s : Str} {t : Nat} (h : OkS s) (ht : t < 26) : OkS (cand (cutS s none (some 6)) t) := by
  refine ⟨strOk_append (strOk_append (strOk_cut h.1) (strOk_sg (by omega))) (by decide +kernel), ?_⟩
  unfold cand
  rw [len_app, len_app]
  have := cut_len6 s
  show _ + 1 + 1 ≤ 12
  omega
/-- one of many unlike ones is not among few -/
theorem one_new {xs found : List Str} (nd : xs.Nodup) (h : found.length < xs.length) : (xs.filter fun s => decide (s ∉ found)) ≠ [] := by
  intro e
  rw [List.filter_eq_nil_iff] at e
  have := nodup_sub_len nd fun x hx => Classical.byContradiction fun z => e x hx (decide_eq_true z)
  omega
theorem cands_nd (u : Str) (n : Nat) : ((List.range n).map (cand u)).Nodup := by
  unfold List.Nodup
  rw [List.pairwise_map]
  exact List.Pairwise.imp (fun {a b} hab e => hab (cand_inj e)) List.nodup_range
/-- a name -/
def IsNm (s : Str) : Prop := 1 ≤ s.length ∧ s.length ≤ 8 ∧ ∀ c ∈ s.cps.toList, 97 ≤ c ∧ c < 123
structure NamesD (xs : List Str) (m : Nat) : Prop where
  nd : xs.Nodup
  ok : ∀ s ∈ xs, OkS s
  len : xs.length = m
  low : ∀ s ∈ xs, IsNm s
theorem join_len1 {ys : List Str} (h : ∀ y ∈ ys, y.length = 1) : (Txt.join "" ys).length = ys.length := by
  rw [len_cps, join_list, List.length_append]
  have e : ∀ zs : List Str, (∀ y ∈ zs, y.length = 1) → ((zs.map fun p => ("" : Str).cps.toList ++ p.cps.toList).flatten).length = zs.length := by
    intro zs
    induction zs with
    | nil => intro _; simp
    | cons z r ih =>
      intro h
      rw [List.map_cons, List.flatten_cons, List.length_append, List.length_cons, List.length_append]
      have h1 := h z List.mem_cons_self
      rw [len_cps] at h1
      have h2 := ih fun y hy => h y (List.mem_cons_of_mem _ hy)
      have h3 : ("" : Str).cps.toList.length = 0 := rfl
      omega
  cases ys with
  | nil => rfl
  | cons y r =>
    have h1 := h y List.mem_cons_self
    rw [len_cps] at h1
    have h2 := e r fun y hy => h y (List.mem_cons_of_mem _ hy)
    simp only [List.headD_cons, List.drop_succ_cons, List.drop_zero, List.length_cons] at h2 ⊢
    omega
theorem low_join {ys : List Str} (h : ∀ y ∈ ys, ∀ c ∈ y.cps.toList, 97 ≤ c ∧ c < 123) : ∀ c ∈ (Txt.join "" ys).cps.toList, 97 ≤ c ∧ c < 123 := fun c hc => by
  rcases join_cps _ _ c hc with hc | ⟨y, hy, hc⟩
  · cases hc
  · exact h y hy c hc
theorem cut_mem {s : Str} {lo hi : Option Int} {c : Nat} (h : c ∈ (cutS s lo hi).cps.toList) : c ∈ s.cps.toList := by
  unfold cutS at h
  simp only [] at h
  exact List.mem_of_mem_drop (List.mem_of_mem_take h)
theorem cand_low {s : Str} {t : Nat} (h : IsNm s) (ht : t < 26) : IsNm (cand (cutS s none (some 6)) t) := by
  obtain ⟨h1, h2, h3⟩ := h
  have h6 := cut_len6 s
  refine ⟨?_, ?_, fun c hc => ?_⟩
  · unfold cand
    rw [len_app, len_app]
    show 1 ≤ _ + 1 + 1
    omega
  · unfold cand
    rw [len_app, len_app]
    show _ + 1 + 1 ≤ 8
    omega
  · unfold cand at hc
    rw [cps_app, cps_app, List.mem_append, List.mem_append] at hc
    rcases hc with (hc | hc) | hc
    · exact h3 c (cut_mem hc)
    · have : c = 97 + t := by simpa using hc
      omega
    · have : c = 113 := by simpa using (show c ∈ [113] from hc)
      omega
theorem NamesD.snoc {xs : List Str} {m : Nat} {s : Str} (nm : NamesD xs m) (hs : s ∉ xs) (ok : OkS s) (low : IsNm s) : NamesD (xs ++ [s]) (m + 1) := by
  refine ⟨?_, ?_, by simp [nm.len], ?_⟩
  · rw [List.nodup_append]
    refine ⟨nm.nd, by simp, fun a ha b hb => ?_⟩
    rw [List.mem_singleton] at hb
    subst hb
    intro e
    subst e
    exact hs ha
  · intro t ht
    rcases List.mem_append.mp ht with ht | ht
    · exact nm.ok t ht
    · rw [List.mem_singleton.mp ht]; exact ok
  · intro t ht
    rcases List.mem_append.mp ht with ht | ht
    · exact nm.low t ht
    · rw [List.mem_singleton.mp ht]; exact low
/-! ### names are drawn -/
theorem digit_at {p n : Nat} {m : Int} {O0 O L : Oh} {R : DK} {xe : Exn → Oh → Prop} (hm : 0 < m) (hz : m ≤ 4611686018427387904) (h : Pt p n O0 O) (k : ∀ (d : Nat) O1, (d : Int) < m → Pt p n O0 O1 → R (.d (.int d)) (O1 ++ L)) : w__law_digit [.c p, .d (.int m)] (O ++ L) R xe :=
  pt_call (digit_draws hm hz) h fun v O1 ⟨d, e, hd⟩ h1 => by subst e; exact k d O1 hd h1
theorem names_draw {p : Nat} {m : Nat} (hm : m ≤ 20) : Draws p w__law_names [.c p, .d (.int m)] fun v => ∃ xs, v = lS xs ∧ NamesD xs m := by
  intro O R xe hp h
  refine def_start rfl fun n l cl => ?_
  repeat refine Go.h ?_
  refine go_rng (by omega) ?_
  repeat refine Go.h ?_
  refine for_rng (fun k Γ S => ∃ O1 found a b c d e f, Γ = [some (.c p), some (.d (.int m)), some (.d (.str "abcdefghijklmnopqrstuvwxyz")), some (.c (n + 0)), a, b, c, d, e, f] ∧ S = O1 ++ [cS found] ∧ Pt p n O O1 ∧ NamesD found k)
    ⟨O, [], _, _, _, _, _, _, rfl, rfl, Pt.start hp l cl, List.nodup_nil, by simp, rfl, by simp⟩ ?_ ?_
  · rintro Γ S ⟨O1, found, a, b, c, d, e, f, rfl, rfl, pt, nm⟩
    haveI := pt.l
    haveI := pt.c
    repeat refine Go.h ?_
    exact h _ _ ⟨found, rfl, nm⟩ pt.chg
  · rintro k Γ S hk ⟨O1, found, a, b, c, d, e, f, rfl, rfl, pt, nm⟩ C hC
    haveI := pt.l
    haveI := pt.c
    repeat refine Go.h ?_
    refine digit_at (by decide) (by decide) pt fun d0 O2 hd0 pt => ?_
    repeat refine Go.h ?_
    have hi : ∃ m : Nat, atI (([PyData.int 1, .int 2, .int 8] : List PyData).map W.d) (d0 : Nat) = some (.d (.int m)) ∧ 1 ≤ m ∧ m ≤ 8 := by
      have : d0 = 0 ∨ d0 = 1 ∨ d0 = 2 := by omega
      rcases this with rfl | rfl | rfl
      · exact ⟨1, rfl, by decide, by decide⟩
      · exact ⟨2, rfl, by decide, by decide⟩
      · exact ⟨8, rfl, by decide, by decide⟩
    obtain ⟨w, hw, hw1, hw2⟩ := hi
    refine go_ix hw ?_
    repeat refine Go.h ?_
    haveI := pt.l
    haveI := pt.c
    refine digit_at (by omega) (by omega) pt fun d1 O3 hd1 pt => ?_
    haveI := pt.l
    haveI := pt.c
    repeat refine Go.h ?_
    rw [show (1 : Int) + (d1 : Nat) = ((d1 + 1 : Nat) : Int) by omega]
    repeat refine Go.h ?_
    refine go_rng (by omega) ?_
    repeat refine Go.h ?_
    refine lc_rng (fun k acc S => ∃ O4 cs, S = O4 ++ [cS found] ∧ Pt p n O O4 ∧ acc = sD cs ∧ (∀ c ∈ cs, c.length = 1 ∧ PyData.strOk c = true ∧ ∀ x ∈ c.cps.toList, 97 ≤ x ∧ x < 123) ∧ cs.length = k)
      ⟨O3, [], rfl, pt, rfl, by simp, rfl⟩ ?_ ?_
    rotate_left
    · rintro k1 acc S hk1 ⟨O4, cs, rfl, pt, rfl, hcs, hl⟩ C2 N2 hC2 hN2
      haveI := pt.l
      haveI := pt.c
      repeat refine Go.h ?_
      refine digit_at (by decide) (by decide) pt fun d2 O5 hd2 pt => ?_
      repeat refine Go.h ?_
      refine go_letter (by omega) ?_
      refine hC2 _ _ (by simp; omega) ⟨O5, cs ++ [sg (97 + d2)], rfl, pt, by simp, ?_, by simp [hl]⟩
      intro c hc
      rcases List.mem_append.mp hc with hc | hc
      · exact hcs c hc
      · rw [List.mem_singleton.mp hc]; exact ⟨rfl, strOk_sg (by omega), fun x hx => by
          have : x = 97 + d2 := by simpa using hx
          omega⟩
    · rintro acc S ⟨O4, cs, rfl, pt, rfl, hcs, hl⟩
      haveI := pt.l
      haveI := pt.c
      have hj := join_len1 fun c hc => (hcs c hc).1
      have hs := sum_len fun c hc => Nat.le_of_eq (hcs c hc).1
      refine go_join (by rw [show ("" : Str).length = 0 from rfl]; omega) ?_
      have ok : OkS (Txt.join "" cs) := ⟨strOk_join0 fun c hc => (hcs c hc).2.1, by omega⟩
      have low : IsNm (Txt.join "" cs) := ⟨by omega, by omega, low_join fun c hc => (hcs c hc).2.2⟩
      have hj8 : (Txt.join "" cs).length ≤ 8 := by omega
      generalize Txt.join "" cs = name at *
      repeat refine Go.h ?_
      refine dcase (fun hm => ?_) (fun hm => ?_)
      · repeat refine Go.h ?_
        rw [show (m : Int) + 1 = ((m + 1 : Nat) : Int) by omega]
        refine go_rng (by omega) ?_
        rw [rgW_range]
        repeat refine Go.h ?_
        refine lc_all (fun t : Nat => PyData.int t) (fun t => .str (cand (cutS name none (some 6)) t)) trivial (by rw [List.length_range]; omega) (fun t ht C3 hC3 => ?_) ?_
        · have ht : t < m + 1 := List.mem_range.mp ht
          repeat refine Go.h ?_
          refine go_slS (by omega) ?_
          repeat refine Go.h ?_
          refine go_letter (by omega) ?_
          repeat refine Go.h ?_
          have h6 := cut_len6 name
          refine go_addS (by show _ + 1 ≤ _; omega) ?_
          repeat refine Go.h ?_
          refine go_addS (by rw [len_app]; show _ + 1 + 1 ≤ _; omega) ?_
          exact hC3
        repeat refine Go.h ?_
        have e1 : ((List.range (m + 1)).map fun t => PyData.str (cand (cutS name none (some 6)) t)) = sD ((List.range (m + 1)).map (cand (cutS name none (some 6)))) := by unfold sD; rw [List.map_map]; rfl
        rw [e1]
        refine lc_mapD PyData.str (fun s => decide (s ∉ found)) PyData.str trivial (by simp; omega) (fun x _ C3 hC3 => ?_) (fun x _ _ C3 hC3 => ?_) ?_
        · repeat refine Go.h ?_
          exact hC3
        · repeat refine Go.h ?_
          exact hC3
        have hne := one_new (found := found) (cands_nd (cutS name none (some 6)) (m + 1)) (by rw [nm.len]; simp; omega)
        cases hf : ((List.range (m + 1)).map (cand (cutS name none (some 6)))).filter (fun s => decide (s ∉ found)) with
        | nil => exact absurd hf hne
        | cons s0 t0 =>
          have hs0 : s0 ∈ ((List.range (m + 1)).map (cand (cutS name none (some 6)))).filter (fun s => decide (s ∉ found)) := by rw [hf]; exact List.mem_cons_self
          obtain ⟨q1, q2⟩ := List.mem_filter.mp hs0
          obtain ⟨t, ht, rfl⟩ := List.mem_map.mp q1
          have ht : t < m + 1 := List.mem_range.mp ht
          repeat refine Go.h ?_
          refine go_append (by simp; have := nm.len; omega) (str_snoc _ _) ?_
          repeat refine Go.h ?_
          exact hC _ _ ⟨O4, _, _, _, _, _, _, _, rfl, rfl, pt, nm.snoc (of_decide_eq_true q2) (cand_ok ok (by omega)) (cand_low low (by omega))⟩
      · repeat refine Go.h ?_
        refine go_append (by simp; have := nm.len; omega) (str_snoc _ _) ?_
        repeat refine Go.h ?_
        exact hC _ _ ⟨O4, found ++ [name], _, _, _, _, _, _, rfl, rfl, pt, nm.snoc hm ok low⟩
end Dl
namespace Dl
open PySem PySem.Spec PyProof.Rows L2
theorem ixN_nat {n d : Nat} (h : d < n) : ixN n (d : Nat) = some d := by
  unfold ixN
  rw [if_pos (by omega), if_pos (by omega), Int.toNat_natCast]
theorem shuffled_draws {p : Nat} {names : List Str} (hz : names.length ≤ 1000) : Draws p w__law_shuffled [.c p, .d (lS names)] fun v => ∃ xs : List Str, v = lS xs ∧ xs.Perm names := by
  intro O R xe hp h
  refine def_start rfl fun n l cl => ?_
  repeat refine Go.h ?_
  refine go_rng (by simp; omega) ?_
  repeat refine Go.h ?_
  refine for_rng (fun k Γ S => ∃ O1 left found a, Γ = [some (.c p), some (.d (lS names)), some (.c (n + 0)), some (.c (n + 1)), a] ∧ S = O1 ++ [cS left, cS found] ∧ Pt p n O O1 ∧ (found ++ left).Perm names ∧ found.length = k)
    ⟨O, names, [], _, rfl, rfl, Pt.start hp l cl, by simp, rfl⟩ ?_ ?_
  · rintro Γ S ⟨O1, left, found, a, rfl, rfl, pt, hpm, hl⟩
    haveI := pt.l
    haveI := pt.c
    have hle := hpm.length_eq
    have hnil : left = [] := by
      apply List.eq_nil_of_length_eq_zero
      simp at hl hle
      omega
    subst hnil
    repeat refine Go.h ?_
    exact h _ _ ⟨found, rfl, by simpa using hpm⟩ pt.chg
  · rintro k Γ S hk ⟨O1, left, found, a, rfl, rfl, pt, hpm, hl⟩ C hC
    haveI := pt.l
    haveI := pt.c
    have hle := hpm.length_eq
    simp at hl hle hk
    have hpos : 0 < left.length := by omega
    repeat refine Go.h ?_
    refine digit_at (by simp; omega) (by simp; omega) pt fun d O2 hd pt => ?_
    haveI := pt.l
    haveI := pt.c
    simp at hd
    repeat refine Go.h ?_
    refine go_popAt (m := d) (y := .d (.str left[d])) (ws' := (sD (left.eraseIdx d)).map W.d) (by simp; omega) (ixN_nat (by simpa using hd)) ?_ ?_ ?_
    · simp [hd]
    · rw [← map_erase, ← map_erase]
    repeat refine Go.h ?_
    refine go_append (by simp; omega) (str_snoc _ _) ?_
    repeat refine Go.h ?_
    refine hC _ _ ⟨O2, left.eraseIdx d, found ++ [left[d]], _, rfl, rfl, pt, ?_, by simp [hl]⟩
    refine List.Perm.trans ?_ hpm
    rw [List.append_assoc]
    refine List.Perm.append_left _ ?_
    have e1 : left = left.take d ++ left[d] :: left.drop (d + 1) := by
      conv => lhs; rw [← List.take_append_drop d left, List.drop_eq_getElem_cons hd]
    have e2 : left.eraseIdx d = left.take d ++ left.drop (d + 1) := List.eraseIdx_eq_take_drop_succ left d
    rw [e2]
    conv => rhs; rw [e1]
    show (left[d] :: (left.take d ++ left.drop (d + 1))).Perm _
    exact List.perm_middle.symm
theorem NamesD.perm {xs ys : List Str} {m : Nat} (h : NamesD xs m) (p : ys.Perm xs) : NamesD ys m := ⟨p.nodup_iff.mpr h.nd, fun s hs => h.ok s (p.mem_iff.mp hs), p.length_eq.trans h.len, fun s hs => h.low s (p.mem_iff.mp hs)⟩
/-- ways that come together again -/
theorem join_st {s : DSt} {f b c : Gm → Oh → Prop} {r : DK} {xe : DX} {Γ : Gm} {O : Oh} (J : Gm → Oh → Prop) (h2 : ∀ C : Gm → Oh → Prop, (∀ Γ' O', J Γ' O' → C Γ' O') → s ⟨C, r, b, c⟩ xe Γ O) (h1 : ∀ Γ' O', J Γ' O' → f Γ' O') : s ⟨f, r, b, c⟩ xe Γ O := h2 f h1
theorem tS_snoc (rs : List (List Str)) (r : List Str) : (rs.map tS).map W.d ++ [.d (tS r)] = ((rs ++ [r]).map tS).map W.d := by simp
structure RowsD (a b : Nat) (rs : List (List Str)) : Prop where
  few : rs.length ≤ b
  ex : ∃ xs m, NamesD xs m ∧ m ≤ a ∧ ∀ r ∈ rs, r.Nodup ∧ ∀ s ∈ r, s ∈ xs
theorem RowsD.good {a b : Nat} {rs : List (List Str)} (h : RowsD a b rs) (ha : a ≤ 8) (hb : b ≤ 6) : GoodR rs := by
  obtain ⟨xs, m, nm, hm, hr⟩ := h.ex
  refine ⟨Nat.le_trans h.few hb, fun r hrr => ⟨(hr r hrr).1, ?_, fun s hs => nm.ok s ((hr r hrr).2 s hs)⟩⟩
  have := nodup_sub_len (hr r hrr).1 (hr r hrr).2
  have := nm.len
  omega
theorem rows_draw {p a b : Nat} (ha : a ≤ 8) (hb : b ≤ 6) : Draws p w__law_rows [.c p, .d (.int a), .d (.int b)] fun v => ∃ rs, v = tR rs ∧ RowsD a b rs := by
  intro O R xe hp h
  refine def_start rfl fun n l cl => ?_
  repeat refine Go.h ?_
  refine digit_at (by decide) (by decide) (Pt.start hp l cl) fun way O1 hway pt => ?_
  repeat refine Go.h ?_
  refine digit_at (by omega) (by omega) pt fun many O2 hmany pt => ?_
  repeat refine Go.h ?_
  refine digit_at (by omega) (by omega) pt fun m O3 hm pt => ?_
  repeat refine Go.h ?_
  refine pt_call (names_draw (by omega)) pt fun v O4 ⟨xs0, e, nm0⟩ pt => ?_
  subst e
  repeat refine Go.h ?_
  refine pt_call (shuffled_draws (by have := nm0.len; omega)) pt fun v O5 ⟨xs, e, hpm⟩ pt => ?_
  subst e
  have nm := nm0.perm hpm
  have hxl := nm.len
  haveI := pt.l
  haveI := pt.c
  repeat refine Go.h ?_
  refine go_rng (by omega) ?_
  repeat refine Go.h ?_
  refine for_rng (fun k Γ S => ∃ O1 rs x5 x8 x9 x10 x11, Γ = [some (.c p), some (.d (.int a)), some (.d (.int b)), some (.d (lS xs)), some (.c (n + 0)), x5, some (.d (.int way)), some (.d (.int many)), x8, x9, x10, x11] ∧
      S = O1 ++ [.lst ((rs.map tS).map W.d)] ∧ Pt p n O O1 ∧ rs.length = k ∧ ∀ r ∈ rs, r.Nodup ∧ ∀ s ∈ r, s ∈ xs)
    ⟨O5, [], _, _, _, _, _, rfl, rfl, pt, rfl, by simp⟩ ?_ ?_
  · rintro Γ S ⟨O1, rs, x5, x8, x9, x10, x11, rfl, rfl, pt, hl, hr⟩
    haveI := pt.l
    haveI := pt.c
    repeat refine Go.h ?_
    exact h _ _ ⟨rs, rfl, by omega, xs, m, nm, by omega, hr⟩ pt.chg
  · rintro k Γ S hk ⟨O1, rs, x5, x8, x9, x10, x11, rfl, rfl, pt, hl, hr⟩ C hC
    haveI := pt.l
    haveI := pt.c
    repeat (fail_if_success with_reducible show dIf _ _ _ _ _ _ _); refine Go.h ?_
    refine join_st (fun Γ' S => ∃ O1 zs, Γ' = [some (.c p), some (.d (.int a)), some (.d (.int b)), some (.d (lS xs)), some (.c (n + 0)), some (.d (.int k)), some (.d (.int way)), some (.d (.int many)), some (.d (lS zs)), x9, x10, x11] ∧ S = O1 ++ [.lst ((rs.map tS).map W.d)] ∧ Pt p n O O1 ∧ zs.Perm xs) ?_ ?_
    · intro C2 hC2
      repeat refine Go.h ?_
      refine dcase (fun z => ?_) (fun z => ?_)
      · repeat refine Go.h ?_
        refine pt_call (shuffled_draws (by omega)) pt fun v O2 ⟨zs, e, hpm2⟩ pt => ?_
        subst e
        repeat refine Go.h ?_
        exact hC2 _ _ ⟨O2, zs, rfl, rfl, pt, hpm2⟩
      · repeat refine Go.h ?_
        exact hC2 _ _ ⟨O1, xs, rfl, rfl, pt, List.Perm.refl _⟩
    · rintro Γ S ⟨O1, zs, rfl, rfl, pt, hz⟩
      have hzl := hz.length_eq
      haveI := pt.l
      haveI := pt.c
      repeat refine Go.h ?_
      refine lc_mapI PyData.str (fun rest acc S => ∃ O2 ys done, S = O2 ++ [.lst ((rs.map tS).map W.d)] ∧ Pt p n O O2 ∧ acc = sD ys ∧ done ++ rest = zs ∧ ys.Sublist done) ⟨O1, [], [], rfl, pt, rfl, rfl, List.Sublist.refl _⟩ ?_ ?_
      rotate_left
      · rintro x rest acc S ⟨O2, ys, done, rfl, pt, rfl, e, sb⟩ C3 N3 hC3 hN3
        have hyl := sb.length_le
        have hdl : done.length ≤ zs.length := by rw [← e]; simp
        haveI := pt.l
        haveI := pt.c
        repeat refine Go.h ?_
        refine digit_at (by decide) (by decide) pt fun d O3 hd pt => ?_
        repeat refine Go.h ?_
        refine dcase (fun z => ?_) (fun z => ?_)
        · repeat refine Go.h ?_
          refine hC3 _ _ (by simp; omega) ⟨O3, ys ++ [x], done ++ [x], rfl, pt, by simp, by rw [← e]; simp, ?_⟩
          exact List.Sublist.append sb (List.Sublist.refl _)
        · repeat refine Go.h ?_
          exact hN3 _ ⟨O3, ys, done ++ [x], rfl, pt, rfl, by rw [← e]; simp, sb.trans (List.sublist_append_left _ _)⟩
      · rintro acc S ⟨O2, ys, done, rfl, pt, rfl, e, sb⟩
        rw [List.append_nil] at e
        subst e
        have hyl := sb.length_le
        have ynd : ys.Nodup := (hz.nodup_iff.mpr nm.nd).sublist sb
        have ysub : ∀ s ∈ ys, s ∈ xs := fun s hs => hz.mem_iff.mp (sb.subset hs)
        haveI := pt.l
        haveI := pt.c
        repeat (fail_if_success with_reducible show dIf _ _ _ _ _ _ _); refine Go.h ?_
        refine join_st (fun Γ' S => ∃ O1 ys x10, Γ' = [some (.c p), some (.d (.int a)), some (.d (.int b)), some (.d (lS xs)), some (.c (n + 0)), some (.d (.int k)), some (.d (.int way)), some (.d (.int many)), some (.d (lS done)), some (.d (lS ys)), x10, x11] ∧ S = O1 ++ [.lst ((rs.map tS).map W.d)] ∧ Pt p n O O1 ∧ ys.Nodup ∧ (∀ s ∈ ys, s ∈ xs)) ?_ ?_
        · intro C2 hC2
          repeat refine Go.h ?_
          refine dcase (fun z1 => ?_) (fun z1 => ?_)
          · repeat refine Go.h ?_
            refine dcase (fun z2 => ?_) (fun z2 => ?_)
            · simp at z2
              repeat refine Go.h ?_
              refine digit_at (by decide) (by decide) pt fun d O3 hd pt => ?_
              repeat refine Go.h ?_
              refine dcase (fun z3 => ?_) (fun z3 => ?_)
              · repeat refine Go.h ?_
                refine digit_at (by simp; omega) (by simp; omega) pt fun g O4 hg pt => ?_
                simp at hg
                haveI := pt.l
                haveI := pt.c
                repeat refine Go.h ?_
                rw [show ((g : Int) + 1) = ((g + 1 : Nat) : Int) by omega]
                refine go_ix (d := .str (ys[g + 1]'(by omega))) (atI_map (by simp)) ?_
                repeat refine Go.h ?_
                refine go_ix (d := .str (ys[g]'(by omega))) (atI_map (by simp)) ?_
                repeat refine Go.h ?_
                rw [cut_take, ← List.map_take]
                refine go_addL (ys := [ys[g + 1]'(by omega), ys[g]'(by omega)]) (by simp; omega) ?_
                repeat refine Go.h ?_
                rw [show ((g : Int) + 2) = ((g + 2 : Nat) : Int) by omega, cut_drop, ← List.map_drop]
                refine go_addL (by simp; omega) ?_
                repeat refine Go.h ?_
                have e1 : ys = ys.take g ++ ys[g]'(by omega) :: ys[g + 1]'(by omega) :: ys.drop (g + 2) := by
                  conv => lhs; rw [← List.take_append_drop g ys, List.drop_eq_getElem_cons (by omega), List.drop_eq_getElem_cons (by omega)]
                have hp2 : (ys.take g ++ [ys[g + 1]'(by omega), ys[g]'(by omega)] ++ ys.drop (g + 2)).Perm ys := by
                  conv => rhs; rw [e1]
                  rw [List.append_assoc]
                  exact List.Perm.append_left _ (List.Perm.swap _ _ _)
                exact hC2 _ _ ⟨O4, _, _, rfl, rfl, pt, hp2.nodup_iff.mpr ynd, fun s hs => ysub s (hp2.mem_iff.mp hs)⟩
              · repeat refine Go.h ?_
                exact hC2 _ _ ⟨O3, ys, _, rfl, rfl, pt, ynd, ysub⟩
            · repeat refine Go.h ?_
              exact hC2 _ _ ⟨O2, ys, _, rfl, rfl, pt, ynd, ysub⟩
          · repeat refine Go.h ?_
            exact hC2 _ _ ⟨O2, ys, _, rfl, rfl, pt, ynd, ysub⟩
        · rintro Γ S ⟨O1, ys, x10, rfl, rfl, pt, ynd, ysub⟩
          haveI := pt.l
          haveI := pt.c
          repeat refine Go.h ?_
          refine go_append (by simp; omega) (tS_snoc rs ys) ?_
          repeat refine Go.h ?_
          refine hC _ _ ⟨O1, rs ++ [ys], _, _, _, _, _, rfl, rfl, pt, by simp [hl], fun r hr' => ?_⟩
          rcases List.mem_append.mp hr' with hr' | hr'
          · exact hr r hr'
          · rw [List.mem_singleton.mp hr']; exact ⟨ynd, ysub⟩
end Dl
namespace Dl
open PySem PySem.Spec PyProof.Rows L2
/-! ### the pot -/
abbrev scr (ns : List Int) : PyData := .dict [(.none, .list (ns.map PyData.int))]
instance {O : Oh} {ns : List Int} : Fz (.d (.dict [(.none, .list (ns.map PyData.int))])) O (ns.map PyData.int) := ⟨rfl, rfl⟩
theorem sp_pot {ns : List Int} {k : Nat} (hk : k < 1000) {O : Oh} {R : DK} {xe : Exn → Oh → Prop} (h : ∀ x y, PotOk x y → R (.c O.length) (O ++ [potC x y])) : w__law_pot [.d (scr ns), .d (.int k)] O R xe := by
  refine def_startC rfl fun n l cl => ?_
  obtain rfl : O.length = n := l.e
  repeat (fail_if_success with_reducible show dIf _ _ _ _ _ _ _); refine Go.h ?_
  refine join_st (fun Γ' S => ∃ x : Int, Γ' = [some (.d (scr ns)), some (.d (.int k)), some (.d (.int x))] ∧ S = O ++ []) ?_ ?_
  · intro C hC
    repeat refine Go.h ?_
    refine dcase (fun z => ?_) (fun z => ?_)
    · simp at z
      repeat refine Go.h ?_
      refine go_ix (d := .int (ns[k]'(by omega))) (atI_map (by simp)) ?_
      repeat refine Go.h ?_
      exact hC _ _ ⟨_, rfl, rfl⟩
    · repeat refine Go.h ?_
      exact hC _ _ ⟨_, rfl, rfl⟩
  · rintro Γ S ⟨x, rfl, rfl⟩
    repeat refine Go.h ?_
    refine ⟨⟨by decide, by decide, by decide⟩, ?_⟩
    repeat refine Go.h ?_
    refine ⟨by decide, ?_⟩
    repeat refine Go.h ?_
    refine ⟨.inl ⟨by decide, by decide⟩, ?_⟩
    repeat refine Go.h ?_
    refine h _ _ ⟨?_, ?_, ?_⟩
    · split <;> omega
    · have : 0 ≤ (if x < 0 then -x else x) % 2147483587 := Int.emod_nonneg _ (by decide)
      omega
    · have : (if x < 0 then -x else x) % 2147483587 < 2147483587 := Int.emod_lt_of_pos _ (by decide)
      omega
/-! ### try -/
def kEx (f : Gm → Oh → Prop) (i : Nat) : Gm → Oh → Prop := fun Γ1 O1 => f (Γ1.set i none) O1
instance {f : Gm → Oh → Prop} {i : Nat} {Γ Γ' : Gm} {O : Oh} [p : Put Γ i none Γ'] : Go (kEx f i Γ O) (f Γ' O) := ⟨fun h => by unfold kEx; rw [p.e]; exact h⟩
theorem eqvAll_refl {n : Nat} (h : ∀ d, shp n d = true → PyData.eqv d d = true) : ∀ ds : List PyData, ds.all (shp n) = true → PyData.eqvAll ds ds = true
  | [], _ => by simp [PyData.eqvAll]
  | d :: r, e => by
    rw [List.all_cons, Bool.and_eq_true] at e
    simp only [PyData.eqvAll, h d e.1, eqvAll_refl h r e.2, Bool.and_self]
theorem eqv_refl : ∀ (n : Nat) (d : PyData), shp n d = true → PyData.eqv d d = true
  | n, .none, _ => rfl
  | n, .bool b, _ => by cases b <;> rfl
  | n, .int i, _ => by rw [eqv_int]; simp
  | n, .str s, _ => by rw [eqv_str]; simp
  | 0, .list ds, h | 0, .tuple ds, h => by cases h
  | n + 1, .list ds, h => by simp only [PyData.eqv]; exact eqvAll_refl (eqv_refl n) ds h
  | n + 1, .tuple ds, h => by simp only [PyData.eqv]; exact eqvAll_refl (eqv_refl n) ds h
  | 0, .dict _, h | _ + 1, .dict _, h => by cases h
theorem go_neSame {d : PyData} {O : Oh} {R : DK} (hs : shp 40 d = true) (h : R (.d (.bool false)) O) : dNe (.d d) (.d d) O R := by
  refine ⟨hs, hs, ?_⟩
  rw [eqv_refl 40 d hs]
  exact h
theorem go_rngI {S : List W → (Oh → Prop) → Oh → Prop} {O : Oh} {j : Int} (h1 : j ≤ 1000000) (h2 : -1000000 ≤ j) (h : S (rgW 0 j.toNat) (fun _ => True) O) : kRng S [.d (.int j)] O := ⟨by omega, by omega, h⟩
end Dl
namespace Dl
open PySem PySem.Spec PyProof.Rows L2
def w__law_told : DFn := dDef 2 1 (
  (dSeq (dAsg (dC .none) (.nm 1))
  (dSeq (dTry [("LineError", false), ("Ring", true)]
   (dAsg (dCall w_merged (dCons (dVar 0) dNil)) (.nm 1))
   (dAsg (dC .none) (.nm 1)))
  (dRet (dVar 1)))))
def w__law_is_behind : DFn := dDef 6 3 (
  (dSeq (dFor (dSeqI (dVar 0)) (.nm 3)
   (dSeq (dAsg (dLc (dSeqI (dVar 3)) (.nm 5) (dB (dOp (dIn2 false) (dVar 5) (dVar 1))) (dVar 5) [5]) (.nm 4))
   (dIf (dB (dOp (dIn2 false) (dVar 2) (dSlice (dVar 4) (dO1 (dC (.int 1))) dO0)))
    (dRet (dC (.bool true)))
    dNext)))
  (dRet (dC (.bool false)))))
def w__law_first : DFn := dDef 5 2 (
  (dSeq (dFor (dSeqI (dVar 0)) (.nm 2)
   (dSeq (dAsg (dLc (dSeqI (dVar 2)) (.nm 4) (dB (dOp (dIn2 false) (dVar 4) (dVar 1))) (dVar 4) [4]) (.nm 3))
   (dIf (dAnd (dB (dOp dNe (dVar 3) (dLst dNil))) (dNot (dB (dCall0 w__law_is_behind (dCons (dVar 0) (dCons (dVar 1) (dCons (dOp dIx2 (dVar 3) (dC (.int 0))) dNil)))))))
    (dRet (dOp dIx2 (dVar 3) (dC (.int 0))))
    dNext)))
  (dRet (dC .none))))
def w__law_due : DFn := dDef 6 1 (
  (dSeq (dAsg (dLstC dNil) (.nm 1))
  (dSeq (dFor (dSeqI (dVar 0)) (.nm 2)
   (dFor (dSeqI (dVar 2)) (.nm 5)
    (dIf (dB (dOp (dIn2 true) (dVar 5) (dVar 1)))
     (dDrop (dBM isLstW dAppend (dVar 1) (dCons (dVar 5) dNil)))
     dNext)))
  (dSeq (dAsg (dLstC dNil) (.nm 3))
  (dSeq (dFor (dRng1 (dCons (dCB dLen (dCons (dVar 1) dNil)) dNil)) (.nm 4)
   (dSeq (dAsg (dCall0 w__law_first (dCons (dVar 0) (dCons (dVar 1) dNil))) (.nm 5))
   (dSeq (dIf (dB (dOp (dIs2 false) (dVar 5) (dC .none)))
    (dRet (dC .none))
    dNext)
   (dSeq (dDrop (dBM isLstW dAppend (dVar 3) (dCons (dVar 5) dNil)))
   (dDrop (dBM isLstW dRemove (dVar 1) (dCons (dVar 5) dNil)))))))
  (dRet (dCB dTupOf (dCons (dVar 3) dNil))))))))
def w__law_renamed : DFn := dDef 4 2 (
  (dRet (dCB dTupOf (dCons (dLc (dSeqI (dVar 0)) (.nm 2) dYes (dCB dTupOf (dCons (dLc (dSeqI (dVar 2)) (.nm 3) dYes (dOp dIx2 (dVar 1) (dVar 3)) [3]) dNil)) [2]) dNil))))
def w__law_other_names : DFn := dDefC 5 2 (
  (dSeq (dAsg dDicK (.nm 2))
  (dSeq (dFor (dSeqI (dVar 1)) (.nm 3)
   (dFor (dSeqI (dVar 3)) (.nm 4)
    (dSetI (dVar 2) (dVar 4) (dC (.bool true)))))
  (dRet (dDictZip (dCons (dCB dListOf2 (dCons (dVar 2) dNil)) (dCons (dCall0 w__law_shuffled (dCons (dVar 0) (dCons (dCall0 w__law_names (dCons (dVar 0) (dCons (dCB dLenD (dCons (dVar 2) dNil)) dNil))) dNil))) dNil)))))))
def w_law : DFn := dDef 9 1 (
  (dSeq (dFor (dRng1 (dCons (dCB dMax (dCons (dC (.int 1)) (dCons (dCB dMin (dCons (dC (.int 4)) (dCons (dCB dLen (dCons (dVar 0) dNil)) dNil))) dNil))) dNil)) (.nm 1)
   (dSeq (dAsg (dCall0 w__law_pot (dCons (dVar 0) (dCons (dVar 1) dNil))) (.nm 2))
   (dSeq (dAsg (dCall0 w__law_digit (dCons (dVar 2) (dCons (dC (.int 6)) dNil))) (.nm 3))
   (dSeq (dAsg (dCall0 w__law_rows (dCons (dVar 2) (dCons (dC (.int 8)) (dCons (dC (.int 5)) dNil)))) (.nm 4))
   (dSeq (dAsg (dCall0 w__law_other_names (dCons (dVar 2) (dCons (dVar 4) dNil))) (.nm 5))
   (dSeq (dAsg (dCall w__law_told (dCons (dVar 4) dNil)) (.nm 6))
   (dSeq (dIf (dB (dOp dNe (dCB dRepr (dCons (dVar 6) dNil)) (dCB dRepr (dCons (dCall0 w__law_due (dCons (dVar 4) dNil)) dNil))))
    (dRet (dC (.bool false)))
    dNext)
   (dSeq (dAsg (dCB dTupOf (dCons (dLc (dSeqI (dCB dListOf2 (dCons (dVar 5) dNil))) (.nm 8) (dB (dOp dEq (dCall0 w__law_digit (dCons (dVar 2) (dCons (dC (.int 2)) dNil))) (dC (.int 0)))) (dVar 8) [8]) dNil)) (.nm 7))
   (dIf (dB (dOp (dIs2 true) (dVar 6) (dC .none)))
    (dSeq (dAsg (dCB dTupOf (dCons (dLc (dSeqI (dVar 6)) (.nm 8) (dB (dOp (dIn2 false) (dVar 8) (dVar 7))) (dVar 8) [8]) dNil)) (.nm 7))
    (dSeq (dIf (dOr (dB (dOp dNe (dCall w__law_told (dCons (dOp dAdd (dOp dAdd (dSlice (dVar 4) dO0 (dO1 (dVar 3))) (dTup (dCons (dVar 6) dNil))) (dSlice (dVar 4) (dO1 (dVar 3)) dO0)) dNil)) (dVar 6))) (dB (dOp dNe (dCall w__law_told (dCons (dOp dAdd (dVar 4) (dTup (dCons (dVar 7) dNil))) dNil)) (dVar 6))))
     (dRet (dC (.bool false)))
     dNext)
    (dIf (dB (dOp dNe (dCall w__law_told (dCons (dCall0 w__law_renamed (dCons (dVar 4) (dCons (dVar 5) dNil))) dNil)) (dOp dIx2 (dCall0 w__law_renamed (dCons (dTup (dCons (dVar 6) dNil)) (dCons (dVar 5) dNil))) (dC (.int 0)))))
     (dRet (dC (.bool false)))
     dNext)))
    (dIf (dOr (dB (dOp (dIs2 true) (dCall w__law_told (dCons (dCall0 w__law_renamed (dCons (dVar 4) (dCons (dVar 5) dNil))) dNil)) (dC .none))) (dB (dOp (dIs2 true) (dCall w__law_told (dCons (dOp dAdd (dVar 4) (dTup (dCons (dVar 7) dNil))) dNil)) (dC .none))))
     (dRet (dC (.bool false)))
     dNext))))))))))
  (dRet (dC (.bool true)))))
end Dl
namespace Dl
open PySem PySem.Spec PyProof.Rows L2
/-! ### ranks -/
def rank (rs : List (List Str)) (s : Str) : Nat := rs.findIdx fun r => decide (s ∈ r)
theorem rank_at {pre q : List (List Str)} {row : List Str} {s : Str} (h : s ∉ pre.flatten) (hs : s ∈ row) : rank (pre ++ row :: q) s = pre.length := by
  unfold rank
  rw [List.findIdx_append]
  have e : pre.findIdx (fun r => decide (s ∈ r)) = pre.length := by
    rw [List.findIdx_eq_length]
    intro r hr
    exact decide_eq_false fun z => h (List.mem_flatten.mpr ⟨r, hr, z⟩)
  rw [e, if_neg (Nat.lt_irrefl _), List.findIdx_cons]
  simp [hs]
theorem rank_lt {pre q : List (List Str)} {s : Str} (h : s ∈ pre.flatten) : rank (pre ++ q) s < pre.length := by
  obtain ⟨r, hr, hs⟩ := List.mem_flatten.mp h
  unfold rank
  rw [List.findIdx_append]
  have : pre.findIdx (fun r => decide (s ∈ r)) < pre.length := List.findIdx_lt_length_of_exists ⟨r, hr, by simpa using hs⟩
  rw [if_pos this]
  exact this
theorem idx_inj {o : List Str} {a b : Str} (ha : a ∈ o) (hb : b ∈ o) (h : o.findIdx (· == a) = o.findIdx (· == b)) : a = b := by
  have h1 : o.findIdx (· == a) < o.length := List.findIdx_lt_length_of_exists ⟨a, ha, by simp⟩
  have h2 : o.findIdx (· == b) < o.length := List.findIdx_lt_length_of_exists ⟨b, hb, by simp⟩
  have e1 := eq_of_beq (List.findIdx_getElem (p := (· == a)) (xs := o) (w := h1))
  have e2 := eq_of_beq (List.findIdx_getElem (p := (· == b)) (xs := o) (w := h2))
  rw [← e1, ← e2]
  congr 1
theorem names_sorted_aux (rs : List (List Str)) : ∀ (q pre : List (List Str)), rs = pre ++ q → ((met pre.flatten).Pairwise fun a b => rank rs a ≤ rank rs b) → ((met rs.flatten).Pairwise fun a b => rank rs a ≤ rank rs b)
  | [], pre, e, h => by rw [List.append_nil] at e; rw [e] at h ⊢; exact h
  | row :: q, pre, e, h => by
    refine names_sorted_aux rs q (pre ++ [row]) (by rw [e]; simp) ?_
    have : ∀ (rest done : List Str), row = done ++ rest → ((met (pre.flatten ++ done)).Pairwise fun a b => rank rs a ≤ rank rs b) → ((met (pre.flatten ++ row)).Pairwise fun a b => rank rs a ≤ rank rs b) := by
      intro rest
      induction rest with
      | nil => intro done e2 h; rw [List.append_nil] at e2; rw [e2]; exact h
      | cons s rest ih =>
        intro done e2 h
        refine ih (done ++ [s]) (by rw [e2]; simp) ?_
        rw [← List.append_assoc, met_snoc]
        unfold addMet
        split
        · exact h
        · next c =>
          rw [List.pairwise_append]
          refine ⟨h, by simp, fun a ha b hb => ?_⟩
          rw [List.mem_singleton] at hb
          subst hb
          have hs : b ∈ row := by rw [e2]; simp
          have hb : b ∉ pre.flatten := fun z => c (List.any_eq_true.mpr ⟨b, mem_met (List.mem_append_left _ z), by simp⟩)
          rw [show rank rs b = pre.length by rw [e, rank_at hb hs]]
          have ha := met_strs ha
          by_cases z : a ∈ pre.flatten
          · rw [e]; exact Nat.le_of_lt (rank_lt z)
          · have hr : a ∈ row := by
              rcases List.mem_append.mp ha with h | h
              · exact absurd h z
              · rw [e2]; exact List.mem_append_left _ h
            rw [e, rank_at z hr]
            exact Nat.le_refl _
    have := this row [] rfl (by rw [List.append_nil]; exact h)
    simpa using this
theorem names_sorted (rs : List (List Str)) : (namesOf rs).Pairwise fun a b => rank rs a ≤ rank rs b := names_sorted_aux rs rs [] rfl List.Pairwise.nil
theorem mem_ahead_of {left row : List Str} {a b : Str} (ha : a ∈ row) (hb : b ∈ row) (hl : b ∈ left) (h : row.findIdx (· == b) < row.findIdx (· == a)) : b ∈ ahead left row a := by
  unfold ahead
  refine List.mem_filter.mpr ⟨?_, decide_eq_true hl⟩
  have l1 : row.findIdx (· == b) < row.length := List.findIdx_lt_length_of_exists ⟨_, hb, by simp⟩
  have e1 := eq_of_beq (List.findIdx_getElem (p := (· == b)) (xs := row) (w := l1))
  rw [List.mem_take_iff_getElem]
  exact ⟨row.findIdx (· == b), by omega, e1⟩
theorem ahead_head {left row : List Str} {c : Str} {t : List Str} (h : row.filter (fun s => decide (s ∈ left)) = c :: t) : ahead left row c = [] := by
  cases hu : ahead left row c with
  | nil => rfl
  | cons x u =>
    exfalso
    have hx : x ∈ ahead left row c := by rw [hu]; exact List.mem_cons_self
    have e : row = row.take (row.findIdx (· == c)) ++ row.drop (row.findIdx (· == c)) := (List.take_append_drop _ _).symm
    rw [e, List.filter_append] at h
    unfold ahead at hu
    rw [hu] at h
    injection h with h1 _
    subst h1
    have := (mem_ahead hx).2.2
    omega
theorem wishFrom_free {left : List Str} {a : Str} : ∀ {k : Nat} {q : List (List Str)}, (∀ row ∈ q, a ∈ row → ahead left row a = []) → wishFrom left a k q = none
  | _, [], _ => rfl
  | k, row :: q, h => by
    unfold wishFrom
    have ih : wishFrom left a (k + 1) q = none := wishFrom_free fun r hr => h r (List.mem_cons_of_mem _ hr)
    split
    · next ha =>
      rw [h row List.mem_cons_self ha]
      exact ih
    · exact ih
theorem rank_row {rs : List (List Str)} {s : Str} (h : ∃ r ∈ rs, s ∈ r) : ∃ hl : rank rs s < rs.length, s ∈ rs[rank rs s] := by
  obtain ⟨r, hr, hs⟩ := h
  have hl : rank rs s < rs.length := List.findIdx_lt_length_of_exists ⟨r, hr, by simpa using hs⟩
  refine ⟨hl, ?_⟩
  have := List.findIdx_getElem (p := fun r => decide (s ∈ r)) (xs := rs) (w := hl)
  exact of_decide_eq_true this
end Dl
namespace Dl
open PySem PySem.Spec PyProof.Rows L2
/-! ### all orders that keep the rows: the earliest is told (as k12 has it) -/
def keptB (rs : List (List Str)) (o : List Str) : Bool := rs.all fun r => decide (o.filter (fun s => decide (s ∈ r)) = r)
abbrev ranksOf (rs : List (List Str)) (o : List Str) : List Int := o.map fun s => (rank rs s : Int)
/-! ### a ring: no order -/
theorem keep_of {rs : List (List Str)} {o : List Str} (h : keptB rs o = true) : ∀ r ∈ rs, o.filter (fun s => decide (s ∈ r)) = r := by
  unfold keptB at h
  rw [List.all_eq_true] at h
  exact fun r hr => of_decide_eq_true (h r hr)
theorem wished_lt {rs : List (List Str)} {o : List Str} (nd : o.Nodup) (hm : ∀ r ∈ rs, ∀ s ∈ r, s ∈ o) (k : ∀ r ∈ rs, o.filter (fun s => decide (s ∈ r)) = r) {w : Wish} (hw : Wished rs w) : o.findIdx (· == w.2.1) < o.findIdx (· == w.2.2) := by
  obtain ⟨row, h1, h2, h3, h4⟩ := hw
  have hr := List.mem_of_getElem? h1
  have up := places_up nd (k row hr)
  rw [List.pairwise_map, List.pairwise_iff_getElem] at up
  have l1 : row.findIdx (· == w.2.1) < row.length := List.findIdx_lt_length_of_exists ⟨_, h2, by simp⟩
  have l2 : row.findIdx (· == w.2.2) < row.length := List.findIdx_lt_length_of_exists ⟨_, h3, by simp⟩
  have e1 := eq_of_beq (List.findIdx_getElem (p := (· == w.2.1)) (xs := row) (w := l1))
  have e2 := eq_of_beq (List.findIdx_getElem (p := (· == w.2.2)) (xs := row) (w := l2))
  have := up _ _ l1 l2 h4
  rw [e1, e2] at this
  have hle : o.findIdx (· == w.2.1) ≤ o.findIdx (· == w.2.2) := by
    have := of_decide_eq_true this
    omega
  rcases Nat.lt_or_eq_of_le hle with h | h
  · exact h
  · have e := idx_inj (hm row hr _ h2) (hm row hr _ h3) h
    rw [e] at h4
    omega
theorem sum_lt {α : Type} {f g : α → Nat} : ∀ {xs : List α}, xs ≠ [] → (∀ x ∈ xs, f x < g x) → (xs.map f).sum < (xs.map g).sum
  | [x], _, h => by simpa using h x List.mem_cons_self
  | x :: y :: r, _, h => by
    have h1 := h x List.mem_cons_self
    have h2 := sum_lt (xs := y :: r) (by simp) fun z hz => h z (List.mem_cons_of_mem _ hz)
    simp only [List.map_cons, List.sum_cons] at h2 ⊢
    omega
theorem ring_no {rs : List (List Str)} {ring : List Wish} (g : IsRing rs ring) {o : List Str} (nd : o.Nodup) (hm : ∀ r ∈ rs, ∀ s ∈ r, s ∈ o) : keptB rs o = false := by
  apply Bool.eq_false_iff.mpr
  intro h
  have k := keep_of h
  have hne : ring ≠ [] := by intro e; have := g.two; rw [e] at this; simp at this
  have h1 := sum_lt (f := fun w : Wish => o.findIdx (· == w.2.1)) (g := fun w : Wish => o.findIdx (· == w.2.2)) hne fun w hw => wished_lt nd hm k (g.all w hw)
  have e1 : (ring.map fun w : Wish => o.findIdx (· == w.2.1)) = (ring.map fun w => w.2.1).map fun s => o.findIdx (· == s) := by rw [List.map_map]; rfl
  have e2 : (ring.map fun w : Wish => o.findIdx (· == w.2.2)) = (ring.map fun w => w.2.2).map fun s => o.findIdx (· == s) := by rw [List.map_map]; rfl
  have hp : (ring.map fun w => w.2.2).Perm (ring.map fun w => w.2.1) := by
    rw [g.turn]
    refine List.perm_append_comm.trans ?_
    rw [List.take_append_drop]
  have := (hp.map fun s => o.findIdx (· == s)).sum_nat
  rw [e1, e2] at h1
  omega
theorem opt {rs : List (List Str)} (hr : ∀ r ∈ rs, r.Nodup) : ∀ (n : Nat) (left found order : List Str), left.length < n → left.Nodup → (left.Pairwise fun a b => rank rs a ≤ rank rs b) → (∀ s ∈ left, ∃ r ∈ rs, s ∈ r) → mergeGo rs n left found = .ok order →
    ∃ tl, order = found ++ tl ∧ ∀ o' : List Str, o'.Perm left → (∀ r ∈ rs, r.filter (fun s => decide (s ∈ left)) = o'.filter fun s => decide (s ∈ r)) → o' = tl ∨ ranksOf rs tl < ranksOf rs o'
  | 0, left, found, order, hn, _, _, _, _ => by omega
  | n + 1, left, found, order, hn, nd, hp, hm, h => by
    unfold mergeGo at h
    by_cases z : left = []
    · rw [if_pos z] at h
      subst z
      cases h
      exact ⟨[], by simp, fun o' ho _ => .inl ho.eq_nil⟩
    · rw [if_neg z] at h
      cases hf : freeOf rs left with
      | nil => rw [hf] at h; cases h
      | cons a t =>
        rw [hf] at h
        have hfa : a ∈ freeOf rs left := by rw [hf]; exact List.mem_cons_self
        obtain ⟨ha, hwa⟩ := List.mem_filter.mp hfa
        have hwa : wishOf rs left a = none := by simpa using hwa
        have hle := List.length_erase_of_mem ha
        have hpos := List.length_pos_of_mem ha
        obtain ⟨tl, e, ih⟩ := opt hr n (left.erase a) (found ++ [a]) order (by omega) (nd.sublist List.erase_sublist) (hp.sublist List.erase_sublist) (fun s hs => hm s (List.mem_of_mem_erase hs)) h
        refine ⟨a :: tl, by rw [e]; simp, fun o' ho hk => ?_⟩
        cases o' with
        | nil => exact absurd (ho.symm.eq_nil) z
        | cons c o =>
          have hc : c ∈ left := ho.mem_iff.mp List.mem_cons_self
          have hwc : wishOf rs left c = none := by
            refine wishFrom_free fun row hrow hcr => ?_
            refine ahead_head (t := o.filter fun s => decide (s ∈ row)) ?_
            rw [hk row hrow, List.filter_cons_of_pos (by simpa using hcr)]
          by_cases hca : c = a
          · subst hca
            have ho2 : o.Perm (left.erase c) := List.Perm.cons_inv (ho.trans (List.perm_cons_erase hc))
            have hk2 : ∀ r ∈ rs, r.filter (fun s => decide (s ∈ left.erase c)) = o.filter fun s => decide (s ∈ r) := fun r hrr => by
              have hk' := hk r hrr
              by_cases hcr : c ∈ r
              · rw [filter_split (hr r hrr) nd hcr hc (wishFrom_none hwc r hrr hcr), List.filter_cons_of_pos (by simpa using hcr)] at hk'
                injection hk'
              · rw [List.filter_cons_of_neg (by simpa using hcr)] at hk'
                rw [← hk']
                apply List.filter_congr
                intro s hs
                have hne : s ≠ c := by rintro rfl; exact hcr hs
                simp [List.mem_erase_of_ne hne]
            rcases ih o ho2 hk2 with e | e
            · exact .inl (by rw [e])
            · refine .inr ?_
              show _ :: _ < _ :: _
              rw [List.cons_lt_cons_iff]
              exact .inr ⟨rfl, e⟩
          · refine .inr ?_
            show _ :: _ < _ :: _
            rw [List.cons_lt_cons_iff]
            refine .inl ?_
            have hct : c ∈ t := by
              have : c ∈ freeOf rs left := List.mem_filter.mpr ⟨hc, by rw [hwc]; rfl⟩
              rw [hf] at this
              rcases List.mem_cons.mp this with h | h
              · exact absurd h hca
              · exact h
            have hsub : (a :: t).Pairwise fun a b => rank rs a ≤ rank rs b := by
              rw [← hf]
              exact hp.sublist List.filter_sublist
            have hle2 : rank rs a ≤ rank rs c := (List.pairwise_cons.mp hsub).1 c hct
            have hne : rank rs a ≠ rank rs c := by
              intro e
              obtain ⟨l1, m1⟩ := rank_row (hm a ha)
              obtain ⟨l2, m2⟩ := rank_row (hm c hc)
              have m2 : c ∈ rs[rank rs a] := by simpa only [e] using m2
              have hrr : rs[rank rs a] ∈ rs := List.getElem_mem l1
              generalize rs[rank rs a] = row at *
              rcases Nat.lt_trichotomy (row.findIdx (· == a)) (row.findIdx (· == c)) with q | q | q
              · have := mem_ahead_of m2 m1 ha q
                rw [wishFrom_none hwc row hrr m2] at this
                cases this
              · exact hca (idx_inj m1 m2 q).symm
              · have := mem_ahead_of m1 m2 hc q
                rw [wishFrom_none hwa row hrr m1] at this
                cases this
            show (rank rs a : Int) < (rank rs c : Int)
            omega
/-- of all orders that keep the rows, the one told is the earliest -/
theorem merged_first {rs : List (List Str)} (hr : ∀ r ∈ rs, r.Nodup) {order : List Str} (h : mergedOf rs = .ok order) {o : List Str} (ho : o.Perm (namesOf rs)) (hk : keptB rs o = true) : o = order ∨ ranksOf rs order < ranksOf rs o := by
  have hmem : ∀ s ∈ namesOf rs, ∃ r ∈ rs, s ∈ r := fun s hs => by
    obtain ⟨r, hr, hs⟩ := List.mem_flatten.mp (met_strs hs)
    exact ⟨r, hr, hs⟩
  obtain ⟨tl, e, q⟩ := opt hr _ _ _ _ (Nat.lt_succ_self _) (met_nodup _) (names_sorted rs) hmem h
  rw [List.nil_append] at e
  subst e
  refine q o ho fun r hrr => ?_
  rw [keep_of hk r hrr, List.filter_eq_self]
  intro s hs
  exact decide_eq_true (namesOf_mem hrr hs)
theorem keptB_iff {rs : List (List Str)} {o : List Str} : keptB rs o = true ↔ ∀ r ∈ rs, o.filter (fun s => decide (s ∈ r)) = r := by
  refine ⟨keep_of, fun h => ?_⟩
  unfold keptB
  rw [List.all_eq_true]
  exact fun r hr => decide_eq_true (h r hr)
theorem mem_names {rs : List (List Str)} {s : Str} : s ∈ namesOf rs ↔ ∃ r ∈ rs, s ∈ r := by
  refine ⟨fun h => ?_, fun ⟨r, hr, hs⟩ => namesOf_mem hr hs⟩
  obtain ⟨r, hr, hs⟩ := List.mem_flatten.mp (met_strs h)
  exact ⟨r, hr, hs⟩
/-- other rows, of the same names with the same ranks, that the told order keeps, and that ask as much: the same is told -/
theorem merged_more {rs rs2 : List (List Str)} {m : List Str} (h1 : ∀ r ∈ rs, r.Nodup) (h2 : ∀ r ∈ rs2, r.Nodup) (hm : mergedOf rs = .ok m) (hn : ∀ s, (∃ r ∈ rs, s ∈ r) ↔ ∃ r ∈ rs2, s ∈ r)
    (hk : keptB rs2 m = true) (ha : ∀ o, o.Nodup → keptB rs2 o = true → keptB rs o = true) (hr : ∀ s ∈ namesOf rs, rank rs2 s = rank rs s) : mergedOf rs2 = .ok m := by
  have mo := merged_ok h1
  rw [hm] at mo
  have mo : Order rs m := mo
  have hnn : ∀ s, s ∈ namesOf rs ↔ s ∈ namesOf rs2 := fun s => by rw [mem_names, mem_names, hn]
  have hp : (namesOf rs).Perm (namesOf rs2) := (List.perm_ext_iff_of_nodup (met_nodup _) (met_nodup _)).mpr hnn
  have mo2 := merged_ok h2
  cases hm2 : mergedOf rs2 with
  | error ring =>
    rw [hm2] at mo2
    have := ring_no mo2 mo.nd fun r hrr s hs => mo.perm.mem_iff.mpr ((hnn s).mpr (namesOf_mem hrr hs))
    rw [hk] at this
    cases this
  | ok m2 =>
    rw [hm2] at mo2
    have mo2 : Order rs2 m2 := mo2
    have k2 : keptB rs m2 = true := ha _ mo2.nd (keptB_iff.mpr mo2.keep)
    have q1 := merged_first h1 hm (mo2.perm.trans hp.symm) k2
    have q2 := merged_first h2 hm2 (mo.perm.trans hp) hk
    have e : ∀ o : List Str, (∀ s ∈ o, s ∈ namesOf rs) → ranksOf rs2 o = ranksOf rs o := fun o ho => List.map_congr_left fun s hs => by rw [hr s (ho s hs)]
    rw [e m2 fun s hs => (hnn s).mpr (mo2.perm.mem_iff.mp hs), e m fun s hs => mo.perm.mem_iff.mp hs] at q2
    rcases q1 with q1 | q1
    · rw [q1]
    · rcases q2 with q2 | q2
      · rw [q2]
      · exact absurd (List.lt_trans q1 q2) (List.lt_irrefl _)
end Dl
namespace Dl
open PySem PySem.Spec PyProof.Rows L2
/-! ### names called otherwise -/
def InjS (τ : Str → Str) (S : List Str) : Prop := ∀ a ∈ S, ∀ b ∈ S, τ a = τ b → a = b
section
variable {τ : Str → Str} {S : List Str} (inj : InjS τ S)
include inj
theorem mem_ren {a : Str} {row : List Str} (ha : a ∈ S) (hr : ∀ s ∈ row, s ∈ S) : τ a ∈ row.map τ ↔ a ∈ row := by
  rw [List.mem_map]
  constructor
  · rintro ⟨b, hb, e⟩
    rwa [← inj b (hr b hb) a ha e]
  · exact fun h => ⟨a, h, rfl⟩
theorem idx_ren {a : Str} {row : List Str} (ha : a ∈ S) (hr : ∀ s ∈ row, s ∈ S) : (row.map τ).findIdx (· == τ a) = row.findIdx (· == a) := by
  induction row with
  | nil => rfl
  | cons x r ih =>
    rw [List.map_cons, List.findIdx_cons, List.findIdx_cons, ih fun s hs => hr s (List.mem_cons_of_mem _ hs)]
    have hx := hr x List.mem_cons_self
    by_cases z : x = a
    · subst z; simp
    · have z2 : τ x ≠ τ a := fun e => z (inj x hx a ha e)
      rw [show (x == a) = false by simpa using z, show (τ x == τ a) = false by simpa using z2]
theorem ahead_ren {left row : List Str} {a : Str} (ha : a ∈ S) (hr : ∀ s ∈ row, s ∈ S) (hl : ∀ s ∈ left, s ∈ S) : ahead (left.map τ) (row.map τ) (τ a) = (ahead left row a).map τ := by
  unfold ahead
  rw [idx_ren inj ha hr, ← List.map_take, List.filter_map]
  congr 1
  refine List.filter_congr fun s hs => ?_
  show decide (τ s ∈ left.map τ) = decide (s ∈ left)
  exact decide_eq_decide.mpr (mem_ren inj (hr s (List.mem_of_mem_take hs)) hl)
theorem wish_ren {left : List Str} {a : Str} (ha : a ∈ S) (hl : ∀ s ∈ left, s ∈ S) : ∀ {rs : List (List Str)} (k : Nat), (∀ r ∈ rs, ∀ s ∈ r, s ∈ S) → (wishFrom (left.map τ) (τ a) k (rs.map (List.map τ))).isNone = (wishFrom left a k rs).isNone
  | [], _, _ => rfl
  | row :: rs, k, h => by
    have hr := h row List.mem_cons_self
    have ih := wish_ren ha hl (rs := rs) (k + 1) fun r hr => h r (List.mem_cons_of_mem _ hr)
    rw [List.map_cons]
    unfold wishFrom
    by_cases z : a ∈ row
    · rw [if_pos z, if_pos ((mem_ren inj ha hr).mpr z), ahead_ren inj ha hr hl]
      cases ahead left row a with
      | nil => exact ih
      | cons b _ => rfl
    · rw [if_neg z, if_neg fun c => z ((mem_ren inj ha hr).mp c)]
      exact ih
theorem free_ren {rs : List (List Str)} {left : List Str} (hs : ∀ r ∈ rs, ∀ s ∈ r, s ∈ S) (hl : ∀ s ∈ left, s ∈ S) : freeOf (rs.map (List.map τ)) (left.map τ) = (freeOf rs left).map τ := by
  unfold freeOf
  rw [List.filter_map]
  congr 1
  refine List.filter_congr fun a ha => ?_
  exact wish_ren inj (hl a ha) hl 0 hs
theorem erase_ren {left : List Str} {a : Str} (ha : a ∈ S) (hl : ∀ s ∈ left, s ∈ S) : (left.map τ).erase (τ a) = (left.erase a).map τ := by
  induction left with
  | nil => rfl
  | cons x r ih =>
    have hx := hl x List.mem_cons_self
    rw [List.map_cons, List.erase_cons, List.erase_cons, ih fun s hs => hl s (List.mem_cons_of_mem _ hs)]
    by_cases z : x = a
    · subst z; simp
    · have z2 : τ x ≠ τ a := fun e => z (inj x hx a ha e)
      rw [show (x == a) = false by simpa using z, show (τ x == τ a) = false by simpa using z2]
      rfl
theorem met_ren : ∀ {xs : List Str} {σ : List Str}, (∀ s ∈ xs, s ∈ S) → (∀ s ∈ σ, s ∈ S) → (xs.map τ).foldl addMet (σ.map τ) = (xs.foldl addMet σ).map τ
  | [], _, _, _ => rfl
  | x :: xs, σ, h, hσ => by
    have hx := h x List.mem_cons_self
    rw [List.map_cons, List.foldl_cons, List.foldl_cons]
    have e : addMet (σ.map τ) (τ x) = (addMet σ x).map τ := by
      unfold addMet
      have ea : ((σ.map τ).any (· == τ x)) = σ.any (· == x) := by
        rw [Bool.eq_iff_iff]
        simp only [List.any_eq_true, beq_iff_eq]
        constructor
        · rintro ⟨y, hy, rfl⟩
          exact ⟨x, (mem_ren inj hx hσ).mp hy, rfl⟩
        · rintro ⟨y, hy, rfl⟩
          exact ⟨_, List.mem_map_of_mem hy, rfl⟩
      rw [ea]
      split
      · rfl
      · rw [List.map_append]; rfl
    rw [e]
    refine met_ren (fun s hs => h s (List.mem_cons_of_mem _ hs)) fun s hs => ?_
    unfold addMet at hs
    split at hs
    · exact hσ s hs
    · rcases List.mem_append.mp hs with hs | hs
      · exact hσ s hs
      · rw [List.mem_singleton.mp hs]; exact hx
theorem names_ren {rs : List (List Str)} (hs : ∀ r ∈ rs, ∀ s ∈ r, s ∈ S) : namesOf (rs.map (List.map τ)) = (namesOf rs).map τ := by
  unfold namesOf met
  rw [← List.map_flatten]
  exact met_ren inj (σ := []) (fun s h => by
    obtain ⟨r, hr, hsr⟩ := List.mem_flatten.mp h
    exact hs r hr s hsr) (by simp)
theorem mergeGo_ren {rs : List (List Str)} (hs : ∀ r ∈ rs, ∀ s ∈ r, s ∈ S) : ∀ {n : Nat} {left found m : List Str}, (∀ s ∈ left, s ∈ S) → mergeGo rs n left found = .ok m → mergeGo (rs.map (List.map τ)) n (left.map τ) (found.map τ) = .ok (m.map τ)
  | 0, left, found, m, _, e => by
    unfold mergeGo at e ⊢
    cases e; rfl
  | n + 1, left, found, m, hl, e => by
    unfold mergeGo at e ⊢
    by_cases z : left = []
    · subst z
      rw [if_pos rfl] at e
      cases e
      rfl
    · rw [if_neg z] at e
      rw [if_neg (by simpa using z), free_ren inj hs hl]
      cases hf : freeOf rs left with
      | nil => rw [hf] at e; cases e
      | cons a q =>
        rw [hf] at e
        have ha : a ∈ left := (List.mem_filter.mp (show a ∈ freeOf rs left by rw [hf]; exact List.mem_cons_self)).1
        have ih := mergeGo_ren hs (n := n) (left := left.erase a) (found := found ++ [a]) (m := m) (fun s h => hl s (List.mem_of_mem_erase h)) e
        rw [List.map_append] at ih
        show mergeGo _ n ((left.map τ).erase (τ a)) (found.map τ ++ [τ a]) = _
        rw [erase_ren inj (hl a ha) hl]
        exact ih
theorem merged_ren {rs : List (List Str)} {m : List Str} (hs : ∀ r ∈ rs, ∀ s ∈ r, s ∈ S) (e : mergedOf rs = .ok m) : mergedOf (rs.map (List.map τ)) = .ok (m.map τ) := by
  unfold mergedOf at e ⊢
  rw [names_ren inj hs, List.length_map]
  exact mergeGo_ren inj hs (found := []) (fun s h => by
    obtain ⟨r, hr, hsr⟩ := List.mem_flatten.mp (met_strs h)
    exact hs r hr s hsr) e
end
theorem nodup_ren {τ : Str → Str} {S xs : List Str} (inj : InjS τ S) (hx : ∀ s ∈ xs, s ∈ S) (nd : xs.Nodup) : (xs.map τ).Nodup := by
  induction xs with
  | nil => exact List.nodup_nil
  | cons x r ih =>
    rw [List.nodup_cons] at nd
    rw [List.map_cons, List.nodup_cons]
    have hr : ∀ s ∈ r, s ∈ S := fun s hs => hx s (List.mem_cons_of_mem _ hs)
    exact ⟨fun c => nd.1 ((mem_ren inj (hx x List.mem_cons_self) hr).mp c), ih hr nd.2⟩
end Dl
namespace Dl
open PySem PySem.Spec PyProof.Rows L2
/-! ### k13: more rows, and names called otherwise -/
theorem ok_order {rs : List (List Str)} {m : List Str} (hr : ∀ r ∈ rs, r.Nodup) (e : mergedOf rs = .ok m) : Order rs m := by
  have := merged_ok hr
  rw [e] at this
  exact this
theorem order_mem {rs : List (List Str)} {m : List Str} (h : Order rs m) {s : Str} : s ∈ m ↔ ∃ r ∈ rs, s ∈ r := by rw [h.perm.mem_iff, mem_names]
/-- an order that keeps the rows: one is told -/
theorem some_ok {rs : List (List Str)} {o : List Str} (hr : ∀ r ∈ rs, r.Nodup) (nd : o.Nodup) (hm : ∀ r ∈ rs, ∀ s ∈ r, s ∈ o) (hk : keptB rs o = true) : ∃ m, mergedOf rs = .ok m := by
  have := merged_ok hr
  cases e : mergedOf rs with
  | ok m => exact ⟨m, rfl⟩
  | error ring =>
    rw [e] at this
    rw [ring_no this nd hm] at hk
    cases hk
/-- the told row, put in anywhere -/
theorem merged_told {rs rs2 : List (List Str)} {m : List Str} (hr : ∀ r ∈ rs, r.Nodup) (e : mergedOf rs = .ok m) (hm : ∀ r, r ∈ rs2 ↔ r ∈ rs ∨ r = m) : mergedOf rs2 = .ok m := by
  have mo := ok_order hr e
  have h2 : ∀ r ∈ rs2, r.Nodup := fun r h => by
    rcases (hm r).mp h with h | rfl
    · exact hr r h
    · exact mo.nd
  have hn : ∀ s, (∃ r ∈ rs2, s ∈ r) ↔ s ∈ m := fun s => by
    rw [order_mem mo]
    constructor
    · rintro ⟨r, h, hs⟩
      rcases (hm r).mp h with h | rfl
      · exact ⟨r, h, hs⟩
      · exact (order_mem mo).mp hs
    · rintro ⟨r, h, hs⟩
      exact ⟨r, (hm r).mpr (.inl h), hs⟩
  have k2 : keptB rs2 m = true := keptB_iff.mpr fun r h => by
    rcases (hm r).mp h with h | rfl
    · exact mo.keep r h
    · exact List.filter_eq_self.mpr fun s hs => decide_eq_true hs
  obtain ⟨m2, e2⟩ := some_ok h2 mo.nd (fun r h s hs => (hn s).mp ⟨r, h, hs⟩) k2
  have mo2 := ok_order h2 e2
  have q := mo2.keep m ((hm m).mpr (.inr rfl))
  rw [List.filter_eq_self.mpr fun s hs => decide_eq_true ((hn s).mp ((order_mem mo2).mp hs))] at q
  rw [e2, q]
theorem rank_app {rs : List (List Str)} {x : List Str} {s : Str} (h : ∃ r ∈ rs, s ∈ r) : rank (rs ++ [x]) s = rank rs s := by
  unfold rank
  rw [List.findIdx_append, if_pos (List.findIdx_lt_length_of_exists (by simpa using h))]
/-- a part of the told row, put at the end -/
theorem merged_part {rs : List (List Str)} {m : List Str} (hr : ∀ r ∈ rs, r.Nodup) (e : mergedOf rs = .ok m) (q : Str → Bool) : mergedOf (rs ++ [m.filter q]) = .ok m := by
  have mo := ok_order hr e
  have hin : ∀ r, r ∈ rs ++ [m.filter q] ↔ r ∈ rs ∨ r = m.filter q := fun r => by simp
  refine merged_more hr (fun r h => ?_) e (fun s => ?_) (keptB_iff.mpr fun r h => ?_) (fun o nd k => keptB_iff.mpr fun r h => keptB_iff.mp k r ((hin r).mpr (.inl h))) (fun s hs => rank_app (mem_names.mp hs))
  · rcases (hin r).mp h with h | rfl
    · exact hr r h
    · exact mo.nd.sublist List.filter_sublist
  · constructor
    · rintro ⟨r, h, hs⟩
      exact ⟨r, (hin r).mpr (.inl h), hs⟩
    · rintro ⟨r, h, hs⟩
      rcases (hin r).mp h with h | rfl
      · exact ⟨r, h, hs⟩
      · exact (order_mem mo).mp (List.mem_filter.mp hs).1
  · rcases (hin r).mp h with h | rfl
    · exact mo.keep r h
    · refine List.filter_congr fun s hs => ?_
      cases hq : q s with
      | true => exact decide_eq_true (List.mem_filter.mpr ⟨hs, hq⟩)
      | false => exact decide_eq_false fun z => by rw [(List.mem_filter.mp z).2] at hq; cases hq
/-- no order keeps the rows: none keeps more -/
theorem ring_more {rs rs2 : List (List Str)} {ring : List Wish} (hr : ∀ r ∈ rs, r.Nodup) (h2 : ∀ r ∈ rs2, r.Nodup) (e : mergedOf rs = .error ring) (hs : ∀ r ∈ rs, r ∈ rs2) : ∃ ring2, mergedOf rs2 = .error ring2 := by
  cases e2 : mergedOf rs2 with
  | error ring2 => exact ⟨ring2, rfl⟩
  | ok m =>
    have mo := ok_order h2 e2
    have := merged_ok hr
    rw [e] at this
    have q := ring_no this mo.nd fun r h s hss => (order_mem mo).mpr ⟨r, hs r h, hss⟩
    rw [keptB_iff.mpr fun r h => mo.keep r (hs r h)] at q
    cases q
/-- a ring stays one, called otherwise -/
theorem ring_ren {τ : Str → Str} {S : List Str} (inj : InjS τ S) {rs : List (List Str)} {ring : List Wish} (hs : ∀ r ∈ rs, ∀ s ∈ r, s ∈ S) (e : mergedOf rs = .error ring) : ∃ ring2, mergedOf (rs.map (List.map τ)) = .error ring2 := by
  cases e2 : mergedOf (rs.map (List.map τ)) with
  | error ring2 => exact ⟨ring2, rfl⟩
  | ok m =>
    let τ' : Str → Str := fun t => (S.find? fun s => τ s == t).getD t
    have back : ∀ s ∈ S, τ' (τ s) = s := fun s h => by
      show (S.find? fun x => τ x == τ s).getD (τ s) = s
      cases ef : S.find? fun x => τ x == τ s with
      | none => exact absurd (List.find?_eq_none.mp ef s h) (by simp)
      | some x =>
        have h1 := List.find?_some ef
        exact inj x (List.mem_of_find?_eq_some ef) s h (by simpa using h1)
    have inj2 : InjS τ' (S.map τ) := by
      intro a ha b hb e
      obtain ⟨a2, ha2, rfl⟩ := List.mem_map.mp ha
      obtain ⟨b2, hb2, rfl⟩ := List.mem_map.mp hb
      rw [back a2 ha2, back b2 hb2] at e
      rw [e]
    have q := merged_ren inj2 (rs := rs.map (List.map τ)) (fun r h s hss => by
      obtain ⟨r2, h2, rfl⟩ := List.mem_map.mp h
      obtain ⟨s2, hs2, rfl⟩ := List.mem_map.mp hss
      exact List.mem_map_of_mem (hs r2 h2 s2 hs2)) e2
    rw [List.map_map] at q
    have e3 : rs.map (List.map τ' ∘ List.map τ) = rs := by
      conv => rhs; rw [← List.map_id rs]
      refine List.map_congr_left fun r h => ?_
      show (r.map τ).map τ' = r
      rw [List.map_map]
      conv => rhs; rw [← List.map_id r]
      exact List.map_congr_left fun s hss => back s (hs r h s hss)
    rw [e3, e] at q
    cases q
/-! ### what is due -/
def behB (rs : List (List Str)) (left : List Str) (a : Str) : Bool := rs.any fun r => decide (a ∈ (r.filter fun s => decide (s ∈ left)).drop 1)
def firstF (left : List Str) (all : List (List Str)) : List (List Str) → Option Str
  | [] => none
  | r :: rs => match r.filter fun s => decide (s ∈ left) with
    | [] => firstF left all rs
    | c :: _ => if behB all left c then firstF left all rs else some c
def dueGo (rs : List (List Str)) : Nat → List Str → List Str → Option (List Str)
  | 0, _, found => some found
  | n + 1, left, found => match firstF left rs rs with
    | none => none
    | some a => dueGo rs n (left.erase a) (found ++ [a])
def dueOf (rs : List (List Str)) : Option (List Str) := dueGo rs (namesOf rs).length (namesOf rs) []
theorem beh_free {rs : List (List Str)} {left : List Str} {a : Str} (hr : ∀ r ∈ rs, r.Nodup) (nl : left.Nodup) (ha : a ∈ left) : behB rs left a = false ↔ wishOf rs left a = none := by
  constructor
  · intro h
    refine wishFrom_free fun row hm har => ?_
    have h1 := List.any_eq_false.mp h row hm
    have h1 : a ∉ (row.filter fun s => decide (s ∈ left)).drop 1 := fun z => h1 (decide_eq_true z)
    have h2 : a ∈ row.filter fun s => decide (s ∈ left) := List.mem_filter.mpr ⟨har, decide_eq_true ha⟩
    cases hf : row.filter fun s => decide (s ∈ left) with
    | nil => rw [hf] at h2; cases h2
    | cons c t =>
      rw [hf] at h1 h2
      rcases List.mem_cons.mp h2 with e | e
      · subst e
        exact ahead_head hf
      · exact absurd e h1
  · intro h
    refine List.any_eq_false.mpr fun row hm => ?_
    intro z
    have z := of_decide_eq_true z
    have har := (List.mem_filter.mp (List.mem_of_mem_drop z)).1
    rw [filter_split (hr row hm) nl har ha (wishFrom_none h row hm har)] at z
    have := (List.mem_filter.mp z).2
    exact absurd (of_decide_eq_true this) (by rw [List.Nodup.mem_erase_iff nl]; exact fun h => h.1 rfl)
theorem first_free {rs : List (List Str)} {left : List Str} (hr : ∀ r ∈ rs, r.Nodup) (nl : left.Nodup) (hp : left.Pairwise fun a b => rank rs a ≤ rank rs b) (hm : ∀ s ∈ left, ∃ r ∈ rs, s ∈ r) : ∀ (q pre : List (List Str)), rs = pre ++ q → (∀ a ∈ freeOf rs left, ∀ r ∈ pre, a ∉ r) → firstF left rs q = (freeOf rs left).head?
  | [], pre, e, h => by
    rw [List.append_nil] at e
    subst e
    cases hf : freeOf rs left with
    | nil => rfl
    | cons a t =>
      have ha : a ∈ freeOf rs left := by rw [hf]; exact List.mem_cons_self
      obtain ⟨r, hr, hs⟩ := hm a (List.mem_filter.mp ha).1
      exact absurd hs (h a ha r hr)
  | r :: q, pre, e, h => by
    have hrr : r ∈ rs := by rw [e]; simp
    have next : (∀ a ∈ freeOf rs left, a ∉ r) → firstF left rs q = (freeOf rs left).head? := fun hn => first_free hr nl hp hm q (pre ++ [r]) (by rw [e, List.append_assoc]; rfl) fun a ha r2 h2 => by
      rcases List.mem_append.mp h2 with h2 | h2
      · exact h a ha r2 h2
      · rw [List.mem_singleton.mp h2]; exact hn a ha
    have isf : ∀ a ∈ freeOf rs left, a ∈ left ∧ behB rs left a = false := fun a ha => by
      obtain ⟨h1, h2⟩ := List.mem_filter.mp ha
      exact ⟨h1, (beh_free hr nl h1).mpr (by simpa using h2)⟩
    unfold firstF
    cases hf : r.filter fun s => decide (s ∈ left) with
    | nil =>
      dsimp only
      refine next fun a ha z => ?_
      have : a ∈ r.filter fun s => decide (s ∈ left) := List.mem_filter.mpr ⟨z, decide_eq_true (isf a ha).1⟩
      rw [hf] at this
      cases this
    | cons c t =>
      dsimp only
      have hc : c ∈ r.filter fun s => decide (s ∈ left) := by rw [hf]; exact List.mem_cons_self
      have hcl : c ∈ left := of_decide_eq_true (List.mem_filter.mp hc).2
      have only : ∀ a ∈ freeOf rs left, a ∈ r → a = c := fun a ha z => by
        have h1 : a ∈ r.filter fun s => decide (s ∈ left) := List.mem_filter.mpr ⟨z, decide_eq_true (isf a ha).1⟩
        rw [hf] at h1
        rcases List.mem_cons.mp h1 with e | e
        · exact e
        · exfalso
          have := List.any_eq_false.mp (isf a ha).2 r hrr
          rw [hf] at this
          exact this (decide_eq_true e)
      cases hb : behB rs left c with
      | true =>
        rw [if_pos rfl]
        refine next fun a ha z => ?_
        have := (isf a ha).2
        rw [only a ha z, hb] at this
        cases this
      | false =>
        rw [if_neg (by simp)]
        have hcf : c ∈ freeOf rs left := List.mem_filter.mpr ⟨hcl, by rw [(beh_free hr nl hcl).mp hb]; rfl⟩
        cases hg : freeOf rs left with
        | nil => rw [hg] at hcf; cases hcf
        | cons a t2 =>
          have ha : a ∈ freeOf rs left := by rw [hg]; exact List.mem_cons_self
          have hsub : (a :: t2).Pairwise fun a b => rank rs a ≤ rank rs b := by rw [← hg]; exact hp.sublist List.filter_sublist
          have hle : rank rs a ≤ rank rs c := by
            rw [hg] at hcf
            rcases List.mem_cons.mp hcf with e | e
            · rw [e]; exact Nat.le_refl _
            · exact (List.pairwise_cons.mp hsub).1 c e
          have hrc : rank rs c ≤ pre.length := by
            have hcr := (List.mem_filter.mp hc).1
            by_cases z : c ∈ pre.flatten
            · rw [e]; exact Nat.le_of_lt (rank_lt z)
            · rw [e, rank_at z hcr]; exact Nat.le_refl _
          have har : a ∈ r := by
            by_cases z : a ∈ pre.flatten
            · obtain ⟨r2, h2, hs⟩ := List.mem_flatten.mp z
              exact absurd hs (h a ha r2 h2)
            · obtain ⟨l1, m1⟩ := rank_row (hm a (isf a ha).1)
              have key : ∀ k (_ : k < pre.length) (hl : k < rs.length), rs[k] ∈ pre := fun k hk hl => by
                subst e
                rw [List.getElem_append_left hk]
                exact List.getElem_mem hk
              have hge : ¬ rank rs a < pre.length := fun hlt => h a ha _ (key _ hlt l1) m1
              have er : rank rs a = pre.length := by omega
              have e3 : rs[rank rs a]? = some r := by rw [er, e, List.getElem?_append_right (Nat.le_refl _), Nat.sub_self]; rfl
              rw [List.getElem?_eq_getElem l1] at e3
              injection e3 with e3
              rw [← e3]; exact m1
          rw [only a ha har]
          rfl
theorem due_merge {rs : List (List Str)} (hr : ∀ r ∈ rs, r.Nodup) : ∀ (n : Nat) (left found : List Str), left.length = n → left.Nodup → (left.Pairwise fun a b => rank rs a ≤ rank rs b) → (∀ s ∈ left, ∃ r ∈ rs, s ∈ r) →
    dueGo rs n left found = match mergeGo rs (n + 1) left found with | .ok m => some m | .error _ => none
  | 0, left, found, hn, _, _, _ => by
    rw [List.length_eq_zero_iff.mp hn]
    unfold mergeGo dueGo
    rw [if_pos rfl]
  | n + 1, left, found, hn, nl, hp, hm => by
    have hne : left ≠ [] := by intro z; rw [z] at hn; cases hn
    unfold mergeGo dueGo
    rw [if_neg hne, first_free hr nl hp hm rs [] rfl (by simp)]
    cases hf : freeOf rs left with
    | nil => rfl
    | cons a t =>
      have ha : a ∈ left := (List.mem_filter.mp (show a ∈ freeOf rs left by rw [hf]; exact List.mem_cons_self)).1
      exact due_merge hr n (left.erase a) (found ++ [a]) (by rw [List.length_erase_of_mem ha, hn]; rfl) (nl.sublist List.erase_sublist) (hp.sublist List.erase_sublist) fun s hs => hm s (List.mem_of_mem_erase hs)
theorem due_is {rs : List (List Str)} (hr : ∀ r ∈ rs, r.Nodup) : dueOf rs = match mergedOf rs with | .ok m => some m | .error _ => none :=
  due_merge hr _ _ _ rfl (met_nodup _) (names_sorted rs) fun s hs => mem_names.mp hs
end Dl
namespace Dl
open PySem PySem.Spec PyProof.Rows L2
def toldN (rs : List (List Str)) : PyData := match mergedOf rs with
  | .ok order => tS order
  | .error _ => .none
theorem go_try {subs : List (Str × Bool)} {suite : DSt} {D : DEnds} {xe : DX} {ex : Exn} {Γ : Gm} {O : Oh} (hs : subs.lookup ex.cls = some true) (h : suite D X0 Γ O) : kTry subs suite D xe ex Γ O := by
  unfold kTry
  rw [hs]
  exact h
theorem sp_toldN {rs : List (List Str)} (g : GoodR rs) {O : Oh} {R : DK} {xe : Exn → Oh → Prop} (h : R (.d (toldN rs)) O) : w__law_told [.d (tR rs)] O R xe := by
  refine def_start rfl fun n l cl => ?_
  repeat refine Go.h ?_
  refine sp_merged g ?_
  unfold toldN at h
  unfold Told
  cases hm : mergedOf rs with
  | ok order =>
    rw [hm] at h
    dsimp only
    repeat refine Go.h ?_
    exact h
  | error ring =>
    rw [hm] at h
    dsimp only
    refine go_try rfl ?_
    repeat refine Go.h ?_
    exact h
theorem sp_is_behind {rs : List (List Str)} {left : List Str} {a : Str} {j : Nat} (g : GoodR rs) {O : Oh} {R : DK} {xe : Exn → Oh → Prop} [hl : Cl O j (cS left)] (h : R (.d (.bool (behB rs left a))) O) : w__law_is_behind [.d (tR rs), .c j, .d (.str a)] O R xe := by
  refine def_start rfl fun n l cl => ?_
  repeat refine Go.h ?_
  refine for_mapD tS (fun q Γ O' => ∃ x3 x4 x5, Γ = [some (.d (tR rs)), some (.c j), some (.d (.str a)), x3, x4, x5] ∧ O' = O ++ [] ∧ behB q left a = behB rs left a ∧ ∀ r ∈ q, r ∈ rs)
    ⟨none, none, none, rfl, rfl, rfl, fun _ h => h⟩ ?_ ?_
  · rintro Γ O' ⟨x3, x4, x5, rfl, rfl, e, _⟩
    repeat refine Go.h ?_
    rw [← e] at h
    exact h
  · rintro row q Γ O' ⟨x3, x4, x5, rfl, rfl, e, hq⟩ C hC
    have h8 := (g.row row (hq _ List.mem_cons_self)).2.1
    repeat refine Go.h ?_
    refine lc_mapD PyData.str (fun s => decide (s ∈ left)) PyData.str trivial (by omega) (fun x _ C hC => ?_) (fun x _ _ C hC => ?_) ?_
    · repeat refine Go.h ?_
      exact hC
    · repeat refine Go.h ?_
      exact hC
    repeat refine Go.h ?_
    rw [show ∀ xs : List PyData, cutL xs (some 1) none = xs.drop 1 from fun xs => cut_drop xs 1, ← List.map_drop]
    repeat refine Go.h ?_
    refine dcase (fun ha => ?_) (fun ha => ?_)
    · have e1 : behB rs left a = true := by
        rw [← e]
        unfold behB
        rw [List.any_cons, decide_eq_true ha]
        rfl
      rw [e1] at h
      repeat refine Go.h ?_
      exact h
    · repeat refine Go.h ?_
      refine hC _ _ ⟨_, _, _, rfl, rfl, ?_, fun r hr => hq r (List.mem_cons_of_mem _ hr)⟩
      rw [← e]
      unfold behB
      rw [List.any_cons, decide_eq_false ha]
      rfl
theorem sp_first {rs : List (List Str)} {left : List Str} {j : Nat} (g : GoodR rs) {O : Oh} {R : DK} {xe : Exn → Oh → Prop} [hl : Cl O j (cS left)] (h : R (.d (match firstF left rs rs with | none => .none | some c => .str c)) O) : w__law_first [.d (tR rs), .c j] O R xe := by
  generalize hz : firstF left rs rs = z at h
  refine def_start rfl fun n l cl => ?_
  repeat refine Go.h ?_
  refine for_mapD tS (fun q Γ O' => ∃ x3 x4 x5, Γ = [some (.d (tR rs)), some (.c j), x3, x4, x5] ∧ O' = O ++ [] ∧ firstF left rs q = z ∧ ∀ r ∈ q, r ∈ rs)
    ⟨none, none, none, rfl, rfl, hz, fun _ h => h⟩ ?_ ?_
  · rintro Γ O' ⟨x3, x4, x5, rfl, rfl, e, _⟩
    repeat refine Go.h ?_
    rw [← e] at h
    exact h
  · rintro row q Γ O' ⟨x3, x4, x5, rfl, rfl, e, hq⟩ C hC
    have h8 := (g.row row (hq _ List.mem_cons_self)).2.1
    repeat refine Go.h ?_
    refine lc_mapD PyData.str (fun s => decide (s ∈ left)) PyData.str trivial (by omega) (fun x _ C hC => ?_) (fun x _ _ C hC => ?_) ?_
    · repeat refine Go.h ?_
      exact hC
    · repeat refine Go.h ?_
      exact hC
    repeat refine Go.h ?_
    unfold firstF at e
    cases hf : row.filter (fun s => decide (s ∈ left)) with
    | nil =>
      rw [hf] at e
      rw [decide_eq_false (by simp)]
      repeat refine Go.h ?_
      exact hC _ _ ⟨_, _, _, rfl, rfl, e, fun r hr => hq r (List.mem_cons_of_mem _ hr)⟩
    | cons c t =>
      rw [hf] at e
      dsimp only at e
      rw [decide_eq_true (by simp)]
      repeat refine Go.h ?_
      refine sp_is_behind (left := left) g ?_
      repeat refine Go.h ?_
      cases hb : behB rs left c with
      | true =>
        rw [hb, if_pos rfl] at e
        repeat refine Go.h ?_
        exact hC _ _ ⟨_, _, _, rfl, rfl, e, fun r hr => hq r (List.mem_cons_of_mem _ hr)⟩
      | false =>
        rw [hb, if_neg (by simp)] at e
        rw [← e] at h
        repeat refine Go.h ?_
        exact h
theorem first_mem {left : List Str} {all : List (List Str)} {a : Str} : ∀ {q : List (List Str)}, firstF left all q = some a → a ∈ left
  | [], h => by cases h
  | r :: q, h => by
    unfold firstF at h
    cases hf : r.filter fun s => decide (s ∈ left) with
    | nil => rw [hf] at h; exact first_mem h
    | cons c t =>
      rw [hf] at h
      dsimp only at h
      split at h
      · exact first_mem h
      · cases h
        have hc : a ∈ r.filter fun s => decide (s ∈ left) := by rw [hf]; exact List.mem_cons_self
        exact of_decide_eq_true (List.mem_filter.mp hc).2
def dueD : Option (List Str) → PyData
  | none => .none
  | some m => tS m
theorem sp_due {rs : List (List Str)} (g : GoodR rs) {O : Oh} {R : DK} {xe : Exn → Oh → Prop} (h : R (.d (dueD (dueOf rs))) O) : w__law_due [.d (tR rs)] O R xe := by
  refine def_start rfl fun n l cl => ?_
  repeat refine Go.h ?_
  refine for_mapD tS (fun done Γ O' => ∃ a b c d σ, Γ = [some (.d (tR rs)), some (.c (n + 0)), a, b, c, d] ∧ O' = O ++ [cS σ] ∧ σ.length + done.flatten.length ≤ 48 ∧ done.flatten.foldl addMet σ = namesOf rs)
    ⟨none, none, none, none, [], rfl, rfl, by simpa using g.flat, rfl⟩ ?_ ?_
  · rintro Γ O' ⟨a, b, c, d, σ, rfl, rfl, hz, e⟩
    simp only [List.flatten_nil, List.foldl_nil] at e
    subst e
    repeat refine Go.h ?_
    have hN : (namesOf rs).length ≤ 48 := by simpa using hz
    have hl : (List.map W.d (sD (namesOf rs))).length = (namesOf rs).length := by simp
    rw [hl]
    refine go_rngI (by omega) (by omega) ?_
    rw [Int.toNat_natCast]
    refine for_rng (fun k Γ S => ∃ left found x2 x4 x5, Γ = [some (.d (tR rs)), some (.c (n + 0)), x2, some (.c (n + 1)), x4, x5] ∧ S = O ++ [cS left, cS found] ∧ k + left.length = (namesOf rs).length ∧ left.length + found.length ≤ 48 ∧ left.Nodup ∧ dueGo rs left.length left found = dueOf rs)
      ⟨namesOf rs, [], _, _, _, rfl, rfl, by simp, by simpa using hN, met_nodup _, rfl⟩ ?_ ?_
    · rintro Γ S ⟨left, found, x2, x4, x5, rfl, rfl, hk, _, _, e⟩
      have z : left = [] := List.length_eq_zero_iff.mp (by omega)
      subst z
      rw [← e] at h
      repeat refine Go.h ?_
      exact h
    · rintro k Γ S hk ⟨left, found, x2, x4, x5, rfl, rfl, hkl, hlf, nl, e⟩ C hC
      repeat refine Go.h ?_
      refine sp_first (left := left) g ?_
      obtain ⟨m, hm⟩ : ∃ m, left.length = m + 1 := ⟨left.length - 1, by omega⟩
      rw [hm] at e
      unfold dueGo at e
      cases hf : firstF left rs rs with
      | none =>
        rw [hf] at e
        rw [← e] at h
        dsimp only
        repeat refine Go.h ?_
        rw [if_neg Bool.false_ne_true, show isNone (W.d PyData.none) = true from rfl]
        repeat refine Go.h ?_
        exact h
      | some a =>
        rw [hf] at e
        dsimp only at e
        have ha : a ∈ left := first_mem hf
        dsimp only
        repeat refine Go.h ?_
        rw [if_neg Bool.false_ne_true, show isNone (W.d (PyData.str a)) = false from rfl]
        repeat refine Go.h ?_
        refine go_append (by simp; omega) (str_snoc found a) ?_
        repeat refine Go.h ?_
        refine go_remove (m := left.findIdx (· == a)) (ws' := (sD (left.erase a)).map W.d) rfl (flat_sD _) (first_sD (idx_some ha)) ?_ ?_
        · rw [← map_erase, ← map_erase, erase_idx (idx_some ha)]
        repeat refine Go.h ?_
        have hle := List.length_erase_of_mem ha
        refine hC _ _ ⟨left.erase a, found ++ [a], _, _, _, rfl, rfl, by omega, by rw [List.length_append, List.length_singleton]; omega, nl.sublist List.erase_sublist, ?_⟩
        rw [hle, hm, Nat.add_sub_cancel]
        exact e
  · rintro r done Γ O' ⟨a, b, c, d, σ, rfl, rfl, hz, e⟩ C hC
    repeat refine Go.h ?_
    rw [List.flatten_cons, List.foldl_append] at e
    rw [List.flatten_cons, List.length_append] at hz
    refine for_mapD PyData.str (fun rest Γ O' => ∃ d σ2, Γ = [some (.d (tR rs)), some (.c (n + 0)), some (.d (tS r)), b, c, d] ∧ O' = O ++ [cS σ2] ∧ σ2.length + rest.length + done.flatten.length ≤ 48 ∧ rest.foldl addMet σ2 = r.foldl addMet σ)
      ⟨d, σ, rfl, rfl, by omega, rfl⟩ ?_ ?_
    · rintro Γ O' ⟨b, σ2, rfl, rfl, hz, e2⟩
      exact hC _ _ ⟨_, _, _, _, σ2, rfl, rfl, by simpa using hz, by rw [← e, ← e2]; rfl⟩
    · rintro s rest Γ O' ⟨d, σ2, rfl, rfl, hz, e2⟩ C2 hC2
      rw [List.length_cons] at hz
      repeat refine Go.h ?_
      refine dcase (fun hs => ?_) (fun hs => ?_)
      · have e3 : addMet σ2 s = σ2 ++ [s] := by
          unfold addMet
          rw [if_neg]
          rw [List.any_eq_true]
          rintro ⟨y, hy, z⟩
          rw [eq_of_beq z] at hy
          exact hs hy
        repeat refine Go.h ?_
        refine go_append (by simp; omega) (str_snoc σ2 s) ?_
        repeat refine Go.h ?_
        refine hC2 _ _ ⟨_, σ2 ++ [s], rfl, rfl, by rw [List.length_append, List.length_singleton]; omega, ?_⟩
        rw [← e2, List.foldl_cons, e3]
      · have e3 : addMet σ2 s = σ2 := by
          unfold addMet
          rw [if_pos]
          exact List.any_eq_true.mpr ⟨s, Classical.byContradiction hs, by simp⟩
        repeat refine Go.h ?_
        refine hC2 _ _ ⟨_, σ2, rfl, rfl, by omega, ?_⟩
        rw [← e2, List.foldl_cons, e3]
end Dl
namespace Dl
open PySem PySem.Spec PyProof.Rows L2
theorem mergeW_new (f : Str → W) : ∀ (σ done : List Str), (done ++ σ).Nodup → mergeW (kvM f done) (kvM f σ) = kvM f (done ++ σ)
  | [], done, _ => by rw [List.append_nil]; rfl
  | s :: σ, done, nd => by
    have hs : s ∉ done := fun c => (List.nodup_append.mp nd).2.2 s c s List.mem_cons_self rfl
    show mergeW (putW (kvM f done) (.inr s) (f s)) (kvM f σ) = _
    have e : putW (kvM f done) (.inr s) (f s) = kvM f (done ++ [s]) := by
      have ha : ((kvM f done).any fun kv => decide (kv.1 = .inr s)) = false := by
        unfold kvM
        rw [List.any_map, List.any_eq_false]
        intro t ht
        have ht : t ≠ s := fun e => hs (e ▸ ht)
        simpa using ht
      unfold putW
      rw [ha, if_neg Bool.false_ne_true]
      unfold kvM
      rw [List.map_append]; rfl
    rw [e, mergeW_new f σ (done ++ [s]) (by rw [List.append_assoc]; exact nd), List.append_assoc]
    rfl
def tauF (xs zs : List Str) (s : Str) : Str := zs.getD (xs.idxOf s) ""
theorem tau_at {xs zs : List Str} (nx : xs.Nodup) (hl : zs.length = xs.length) {i : Nat} (hi : i < xs.length) : tauF xs zs xs[i] = zs[i]'(by omega) := by
  unfold tauF
  rw [nx.idxOf_getElem i hi, List.getD_eq_getElem?_getD, List.getElem?_eq_getElem (by omega)]
  rfl
theorem tau_inj {xs zs : List Str} (nx : xs.Nodup) (nz : zs.Nodup) (hl : zs.length = xs.length) : InjS (tauF xs zs) xs := by
  intro a ha b hb e
  obtain ⟨i, hi, rfl⟩ := List.mem_iff_getElem.mp ha
  obtain ⟨j, hj, rfl⟩ := List.mem_iff_getElem.mp hb
  rw [tau_at nx hl hi, tau_at nx hl hj] at e
  have := nz.idxOf_getElem i (by omega)
  rw [e, nz.idxOf_getElem j (by omega)] at this
  subst this
  rfl
theorem tau_map {xs zs : List Str} (nx : xs.Nodup) (hl : zs.length = xs.length) : xs.map (tauF xs zs) = zs := by
  refine List.ext_getElem (by rw [List.length_map, hl]) fun i h1 h2 => ?_
  rw [List.getElem_map]
  exact tau_at nx hl (by rw [List.length_map] at h1; exact h1)
theorem sp_renamed {rs : List (List Str)} {S : List Str} {τ : Str → Str} {j : Nat} (hz : rs.length ≤ 100) (hl : ∀ r ∈ rs, r.length ≤ 100) (hs : ∀ r ∈ rs, ∀ s ∈ r, s ∈ S) {O : Oh} {R : DK} {xe : Exn → Oh → Prop}
    [c : Cl O j (.dic (kvM (fun s => .d (.str (τ s))) S))] (h : R (.d (tR (rs.map (List.map τ)))) O) : w__law_renamed [.d (tR rs), .c j] O R xe := by
  refine def_start rfl fun n l cl => ?_
  repeat refine Go.h ?_
  refine lc_all tS (fun r => tS (r.map τ)) trivial (by omega) (fun r hr C hC => ?_) ?_
  · repeat refine Go.h ?_
    refine lc_all PyData.str (fun t => .str (τ t)) trivial (by have := hl r hr; omega) (fun t ht D2 hD2 => ?_) ?_
    · repeat refine Go.h ?_
      refine go_ixK (hs r hr t ht) ?_
      exact hD2
    repeat refine Go.h ?_
    rw [show r.map (fun t => PyData.str (τ t)) = sD (r.map τ) by unfold sD; rw [List.map_map]; rfl]
    exact hC
  repeat refine Go.h ?_
  rw [show rs.map (fun r => tS (r.map τ)) = (rs.map (List.map τ)).map tS by rw [List.map_map]; rfl]
  exact h
def kDictZip (R : DK) (xs : List W) (O1 : Oh) : Prop := match xs with
  | [x, y] => (match asL x O1, asL y O1 with
    | some us, some vs => (match keysW us with
      | some qs => qs.length = vs.length ∧ R (.c O1.length) (O1 ++ [.dic (mergeW [] (qs.zip vs))])
      | none => False)
    | _, _ => False)
  | _ => False
instance {ws : DA} {Γ : Gm} {O : Oh} {R : DK} {xe : DX} : Go (dDictZip ws Γ O R xe) (ws Γ O (fun xs O1 => kDictZip R xs O1) xe) := ⟨fun h => h⟩
theorem keysW_sD : ∀ xs : List Str, keysW ((sD xs).map W.d) = some (xs.map Sum.inr)
  | [] => rfl
  | x :: r => by
    show keysW (.d (.str x) :: (sD r).map W.d) = _
    unfold keysW
    rw [keysW_sD r]
    rfl
theorem go_dictZip {xs zs : List Str} {O : Oh} {R : DK} (nx : xs.Nodup) (hl : zs.length = xs.length) (h : R (.c O.length) (O ++ [.dic (kvM (fun s => .d (.str (tauF xs zs s))) xs)])) : kDictZip R [.d (lS xs), .d (lS zs)] O := by
  have e3 : (xs.map (Sum.inr : Str → Key)).zip ((sD zs).map W.d) = kvM (fun s => .d (.str (tauF xs zs s))) xs := by
    conv => lhs; rw [← tau_map nx hl]
    unfold sD kvM
    rw [List.map_map, List.map_map, List.zip_map', ]
    rfl
  unfold kDictZip
  dsimp only
  rw [show asL (.d (lS xs)) O = some ((sD xs).map W.d) from rfl, show asL (.d (lS zs)) O = some ((sD zs).map W.d) from rfl]
  dsimp only
  rw [keysW_sD]
  dsimp only
  rw [e3, show mergeW [] (kvM (fun s => W.d (.str (tauF xs zs s))) xs) = kvM (fun s => W.d (.str (tauF xs zs s))) xs from mergeW_new _ xs [] nx]
  exact ⟨by simp [hl], h⟩
theorem kvS_kvM (σ : List Str) : kvS σ = kvM (fun _ => .d (.bool true)) σ := rfl
theorem go_lenK {x : W} {O : Oh} {R : DK} {f : Str → W} {σ : List Str} [g : KvM x O f σ] (h : R (.d (.int (σ.length : Nat))) O) : dLenD [x] O R := by
  unfold dLenD
  dsimp only
  rw [g.e]
  dsimp only
  rw [kvM_len]
  exact h
instance clt_tau {n : Nat} {τ : Str → Str} {σ : List Str} : CLt n (.dic (kvM (fun s => .d (.str (τ s))) σ)) := ⟨by
  show (kvM (fun s => W.d (PyData.str (τ s))) σ).all (fun p => p.2.lt n) = true
  unfold kvM
  rw [List.all_map]
  exact List.all_eq_true.mpr fun _ _ => rfl⟩
theorem sp_other {rs : List (List Str)} (g : GoodR rs) (h20 : (namesOf rs).length ≤ 20) {p : Nat} {O : Oh} {R : DK} {xe : Exn → Oh → Prop} (hp : PotAt O p)
    (h : ∀ zs O1, NamesD zs (namesOf rs).length → Chg p O O1 → R (.c O1.length) (O1 ++ [.dic (kvM (fun s => .d (.str (tauF (namesOf rs) zs s))) (namesOf rs))])) : w__law_other_names [.c p, .d (tR rs)] O R xe := by
  refine def_startC rfl fun n l cl => ?_
  obtain rfl : O.length = n := l.e
  have P0 : Pt p O.length O O := .start hp l cl
  repeat refine Go.h ?_
  refine for_mapD tS (fun done Γ O' => ∃ a b σ, Γ = [some (.c p), some (.d (tR rs)), some (.c (O.length + 0)), a, b] ∧ O' = O ++ [.dic (kvS σ)] ∧ σ.length + done.flatten.length ≤ 48 ∧ done.flatten.foldl addMet σ = namesOf rs)
    ⟨none, none, [], rfl, rfl, by simpa using g.flat, rfl⟩ ?_ ?_
  · rintro Γ O' ⟨a, b, σ, rfl, rfl, hz, e⟩
    simp only [List.flatten_nil, List.foldl_nil] at e
    subst e
    rw [kvS_kvM]
    repeat refine Go.h ?_
    refine go_listOfK (f := fun _ => .d (.bool true)) (by omega) (fun s hs => ?_) ?_
    · obtain ⟨r, hr, hs⟩ := List.mem_flatten.mp (met_strs hs)
      exact (g.row r hr).2.2 s hs
    repeat refine Go.h ?_
    refine go_lenK (f := fun _ => .d (.bool true)) (σ := namesOf rs) ?_
    repeat refine Go.h ?_
    refine pt_call (names_draw h20) P0 fun v O1 ⟨zs0, e, nm0⟩ pt => ?_
    subst e
    repeat refine Go.h ?_
    refine pt_call (shuffled_draws (by have := nm0.len; omega)) pt fun v O2 ⟨zs, e, hpm⟩ pt => ?_
    subst e
    have nm := nm0.perm hpm
    refine go_dictZip (met_nodup _) nm.len ?_
    haveI := pt.l
    haveI := pt.c
    have hl2 : O2.length = O.length := pt.l.e
    rw [List.append_assoc, List.length_append, hl2]
    show dAnsC O.length R (.c (O.length + 1)) (O2 ++ [Cell.dic (kvM (fun x => W.d (PyData.bool true)) (namesOf rs)), Cell.dic (kvM (fun s => W.d (PyData.str (tauF (namesOf rs) zs s))) (namesOf rs))])
    repeat refine Go.h ?_
    have := h zs O2 nm pt.chg
    rw [hl2] at this
    exact this
  · rintro r done Γ O' ⟨a, b, σ, rfl, rfl, hz, e⟩ C hC
    repeat refine Go.h ?_
    rw [List.flatten_cons, List.foldl_append] at e
    rw [List.flatten_cons, List.length_append] at hz
    refine for_mapD PyData.str (fun rest Γ O' => ∃ b σ2, Γ = [some (.c p), some (.d (tR rs)), some (.c (O.length + 0)), some (.d (tS r)), b] ∧ O' = O ++ [.dic (kvS σ2)] ∧ σ2.length + rest.length + done.flatten.length ≤ 48 ∧ rest.foldl addMet σ2 = r.foldl addMet σ)
      ⟨b, σ, rfl, rfl, by omega, rfl⟩ ?_ ?_
    · rintro Γ O' ⟨b, σ2, rfl, rfl, hz, e2⟩
      exact hC _ _ ⟨_, _, σ2, rfl, rfl, by simpa using hz, by rw [← e, ← e2]; rfl⟩
    · rintro s rest Γ O' ⟨b, σ2, rfl, rfl, hz, e2⟩ C2 hC2
      rw [List.length_cons] at hz
      repeat refine Go.h ?_
      refine putix_key (by rw [kvS_len]; omega) (hC2 _ _ ⟨_, addMet σ2 s, rfl, ?_, ?_, ?_⟩)
      · rw [putW_kvS]
      · have := addMet_le σ2 s; omega
      · rw [← e2]; rfl
end Dl
namespace Dl
open PySem PySem.Spec PyProof.Rows L2
open PySem.Builtin.Str (reprChar)
/-! ### repr of None, and of a tuple of names -/
theorem rep_low {q c : Nat} (hq : q = 34 ∨ q = 39) (h : 97 ≤ c ∧ c < 123) : reprChar q c = [c] := by
  have key : ∀ d : Nat, d < 26 → reprChar 34 (97 + d) = [97 + d] ∧ reprChar 39 (97 + d) = [97 + d] := by decide +kernel
  have := key (c - 97) (by omega)
  rw [show 97 + (c - 97) = c by omega] at this
  rcases hq with rfl | rfl
  · exact this.1
  · exact this.2
theorem fold_low {q : Nat} (hq : q = 34 ∨ q = 39) : ∀ (l : List Nat) (acc : Array Nat), (∀ c ∈ l, 97 ≤ c ∧ c < 123) → l.foldl (fun out c => out ++ (reprChar q c).toArray) acc = acc ++ l.toArray
  | [], acc, _ => by simp
  | c :: r, acc, h => by
    rw [List.foldl_cons, rep_low hq (h c List.mem_cons_self), fold_low hq r _ fun d hd => h d (List.mem_cons_of_mem _ hd)]
    simp
theorem quote_or (x : Str) : reprQuote x = 34 ∨ reprQuote x = 39 := by
  unfold reprQuote
  split
  · exact .inl rfl
  · exact .inr rfl
theorem repr_low {x : Str} (h : ∀ c ∈ x.cps.toList, 97 ≤ c ∧ c < 123) : (reprText x).cps = (#[reprQuote x] ++ x.cps).push (reprQuote x) := by
  unfold reprText
  show (x.cps.foldl (fun out c => out ++ (reprChar (reprQuote x) c).toArray) #[reprQuote x]).push (reprQuote x) = _
  rw [← Array.foldl_toList, fold_low (quote_or x) _ _ h]
theorem strOk_repr {x : Str} (h : ∀ c ∈ x.cps.toList, 97 ≤ c ∧ c < 123) : PyData.strOk (reprText x) = true := by
  unfold PyData.strOk
  rw [repr_low h, Array.all_eq_true_iff_forall_mem]
  intro c hc
  rw [Array.mem_push, Array.mem_append] at hc
  have hq := quote_or x
  rcases hc with (hc | hc) | hc
  · have : c = reprQuote x := by simpa using hc
    rw [this]
    rcases hq with e | e <;> rw [e] <;> rfl
  · have := h c (Array.mem_toList_iff.mpr hc)
    exact decide_eq_true (by omega)
  · rw [hc]
    rcases hq with e | e <;> rw [e] <;> rfl
theorem repr_len {x : Str} (h : ∀ c ∈ x.cps.toList, 97 ≤ c ∧ c < 123) : (reprText x).length = x.length + 2 := by
  show (reprText x).cps.size = x.cps.size + 2
  rw [repr_low h]
  simp
  omega
theorem shown_names : ∀ m : List Str, PyData.shownAll (sD m) = m.map reprText
  | [] => rfl
  | x :: r => by
    show PyData.shown (.str x) :: PyData.shownAll (sD r) = _
    rw [shown_names r]; rfl
theorem showable_names : ∀ m : List Str, PyData.showableAll (sD m) = true
  | [] => rfl
  | x :: r => by
    show (PyData.showable (.str x) && PyData.showableAll (sD r)) = true
    rw [showable_names r]; rfl
theorem nodict_names : ∀ m : List Str, PyData.hasDictAll (sD m) = false
  | [] => rfl
  | x :: r => by
    show (PyData.hasDict (.str x) || PyData.hasDictAll (sD r)) = false
    rw [nodict_names r]; rfl
theorem piled_names : ∀ m : List Str, (∀ s ∈ m, IsNm s) → piled (m.map reprText) ≤ 12 * m.length
  | [], _ => Nat.le_refl _
  | x :: r, h => by
    have h1 := h x List.mem_cons_self
    rw [List.map_cons, piled_cons, repr_len h1.2.2, List.length_cons]
    have := piled_names r fun s hs => h s (List.mem_cons_of_mem _ hs)
    have := h1.2.1
    omega
theorem strOk_sj {z : Str} (hz : PyData.strOk z = true) : ∀ {ys : List Str}, (∀ y ∈ ys, PyData.strOk y = true) → PyData.strOk (Str.join z ys) = true
  | [], _ => by show PyData.strOk (Str.ofString "") = true; decide +kernel
  | [x], h => h x List.mem_cons_self
  | x :: y :: r, h => strOk_append (strOk_append (h x List.mem_cons_self) hz) (strOk_sj hz fun w hw => h w (List.mem_cons_of_mem _ hw))
theorem go_reprS {m : List Str} (hl : m.length ≤ 1000) (hm : ∀ s ∈ m, IsNm s) {O : Oh} {R : DK} (h : R (.d (.str (PyData.shown (tS m)))) O) : dRepr [.d (tS m)] O R := by
  refine ⟨shp_tS 39 m, rfl, showable_names m, nodict_names m, ?_, ?_, h⟩
  · show (tupleText (PyData.shownAll (sD m))).length ≤ sizeLine
    rw [shown_names]
    unfold tupleText
    have e0 : sizeLine = 16777216 := by decide
    have hp := piled_names m hm
    rw [len_app, len_app, e0]
    have hj : (Str.join ", " (m.map reprText)).length ≤ 12000 := by
      by_cases z : m.map reprText = []
      · rw [z]; decide +kernel
      · have := join_length_add _ z
        omega
    have h1 : ("(" : Str).length = 1 := by decide +kernel
    have h2 : (Str.ofString (if (m.map reprText).length == 1 then ",)" else ")")).length ≤ 2 := by split <;> decide +kernel
    rw [h1]
    omega
  · show PyData.strOk (tupleText (PyData.shownAll (sD m))) = true
    rw [shown_names]
    unfold tupleText
    refine strOk_append (strOk_append (by decide +kernel) ?_) ?_
    · refine strOk_sj (by decide +kernel) fun y hy => ?_
      obtain ⟨x, hx, rfl⟩ := List.mem_map.mp hy
      exact strOk_repr (hm x hx).2.2
    · split <;> decide +kernel
theorem go_reprN {O : Oh} {R : DK} (h : R (.d (.str "None")) O) : dRepr [.d .none] O R := by
  refine ⟨rfl, rfl, rfl, rfl, by decide +kernel, by decide +kernel, h⟩
end Dl
namespace Dl
open PySem PySem.Spec PyProof.Rows L2
theorem lo_hi4 (q : Int) : (if (if q < 4 then q else 4) > 1 then (if q < 4 then q else 4) else 1) ≤ 4 ∧ 1 ≤ (if (if q < 4 then q else 4) > 1 then (if q < 4 then q else 4) else 1) := by
  by_cases h : q < 4
  · rw [if_pos h]; split <;> omega
  · rw [if_neg h]; decide
theorem go_reprT {rs : List (List Str)} (hr : ∀ r ∈ rs, r.Nodup) (hl : (namesOf rs).length ≤ 1000) (hn : ∀ s ∈ namesOf rs, IsNm s) {O : Oh} {R : DK} (h : PyData.strOk (toldN rs).shown = true → R (.d (.str (toldN rs).shown)) O) : dRepr [.d (toldN rs)] O R := by
  cases hm : mergedOf rs with
  | error ring =>
    have et : toldN rs = .none := by unfold toldN; rw [hm]
    rw [et] at h ⊢
    exact go_reprN (h (by decide +kernel))
  | ok m =>
    have mo := ok_order hr hm
    have et : toldN rs = tS m := by unfold toldN; rw [hm]
    rw [et] at h ⊢
    refine go_reprS (by rw [mo.perm.length_eq]; exact hl) (fun s hs => hn s (mo.perm.mem_iff.mp hs)) (h ?_)
    exact (go_reprS (O := []) (R := fun _ _ => True) (by rw [mo.perm.length_eq]; exact hl) (fun s hs => hn s (mo.perm.mem_iff.mp hs)) trivial).2.2.2.2.2.1
theorem due_told {rs : List (List Str)} (hr : ∀ r ∈ rs, r.Nodup) : dueD (dueOf rs) = toldN rs := by
  rw [due_is hr]
  unfold toldN
  cases mergedOf rs <;> rfl
theorem go_addR {O : Oh} {R : DK} {xs ys : List (List Str)} (hz : xs.length + ys.length ≤ 1000000) (h : R (.d (tR (xs ++ ys))) O) : dAdd (.d (tR xs)) (.d (tR ys)) O R := by
  show (xs.map tS).length + (ys.map tS).length ≤ 1000000 ∧ R (.d (.tuple (xs.map tS ++ ys.map tS))) O
  rw [List.length_map, List.length_map, ← List.map_append]
  exact ⟨hz, h⟩
/-- a draw, the pot alone changed -/
theorem chg_call {p : Nat} {f : DFn} {args : List W} {Q : PyData → Prop} {O0 O L : Oh} {R : DK} {xe : Exn → Oh → Prop} (d : Draws p f args Q) (h : Chg p O0 O)
    (k : ∀ v O1, Q v → Chg p O0 O1 → R (.d v) (O1 ++ L)) : f args (O ++ L) R xe := by
  refine d _ _ _ (PotAt.app h.pot) fun v O' hq hc => ?_
  obtain ⟨O1, rfl, h1⟩ := hc.app (by rw [h.len]; exact h.1)
  exact k v O1 hq (h.trans h1)
theorem law_all {ns : List Int} {R : DK} {xe : Exn → Oh → Prop} {O : Oh} (h : ∀ O', R (.d (.bool true)) O') : w_law [.d (scr ns)] O R xe := by
  refine def_start rfl fun n l cl => ?_
  repeat refine Go.h ?_
  have hj := lo_hi4 ((List.map W.d (ns.map PyData.int)).length : Nat)
  refine go_rngI (by omega) (by omega) ?_
  repeat refine Go.h ?_
  generalize (if (if ((List.map W.d (ns.map PyData.int)).length : Int) < 4 then ((List.map W.d (ns.map PyData.int)).length : Int) else 4) > 1 then (if ((List.map W.d (ns.map PyData.int)).length : Int) < 4 then ((List.map W.d (ns.map PyData.int)).length : Int) else 4) else 1) = j at *
  refine for_rng (fun k Γ S => ∃ L a b c d e f g, Γ = [some (.d (scr ns)), a, b, c, d, e, f, g, none] ∧ S = O ++ L) ⟨[], _, _, _, _, _, _, _, rfl, rfl⟩ ?_ ?_
  · rintro Γ S ⟨L, a, b, c, d, e, f, g, rfl, rfl⟩
    repeat refine Go.h ?_
    exact h _
  · rintro k Γ S hk ⟨L, a, b, c, d, e, f, g, rfl, rfl⟩ C hC
    repeat refine Go.h ?_
    refine sp_pot (by omega) fun x y ok => ?_
    repeat refine Go.h ?_
    have hp : PotAt (O ++ L ++ [potC x y]) (O ++ L).length := ⟨x, y, by rw [List.getElem?_append_right (Nat.le_refl _), Nat.sub_self]; rfl, ok⟩
    have fin : ∀ {O1 M : Oh}, Chg (O ++ L).length (O ++ L ++ [potC x y]) O1 → ∃ L', O1 ++ M = O ++ L' := by
      rintro O1 M ⟨_, x2, y2, e2, _⟩
      refine ⟨L ++ [potC x2 y2] ++ M, ?_⟩
      rw [e2, List.set_append_right _ _ (Nat.le_refl _), Nat.sub_self]
      simp
    generalize hB : O ++ L ++ [potC x y] = B at *
    generalize (O ++ L).length = p at *
    have h0 : Chg p B B := hp.chg
    have eB : B = B ++ [] := (List.append_nil _).symm
    rw [eB]
    refine chg_call (digit_draws (m := 6) (by decide) (by decide)) h0 fun v O1 ⟨at_, e, hat⟩ h1 => ?_
    subst e
    repeat refine Go.h ?_
    refine chg_call (rows_draw (a := 8) (b := 5) (by decide) (by decide)) h1 fun v O2 ⟨rs, e, rd⟩ h2 => ?_
    subst e
    have g := rd.good (by decide) (by decide)
    obtain ⟨xs0, m0, nm0, hm0, hr0⟩ := rd.ex
    have hnd : ∀ r ∈ rs, r.Nodup := fun r hr => (g.row r hr).1
    have hnm : ∀ s ∈ namesOf rs, s ∈ xs0 := fun s hs => by
      obtain ⟨r, hr, hs⟩ := mem_names.mp hs
      exact (hr0 r hr).2 s hs
    have few : (namesOf rs).length ≤ 8 := by
      have := nodup_sub_len (met_nodup rs.flatten) (ys := xs0) hnm
      have := nm0.len
      show (met rs.flatten).length ≤ 8
      omega
    have nok : ∀ s ∈ namesOf rs, OkS s := fun s hs => nm0.ok s (hnm s hs)
    have nlow : ∀ s ∈ namesOf rs, IsNm s := fun s hs => nm0.low s (hnm s hs)
    rw [List.append_nil]
    refine sp_other g (by omega) h2.pot fun zs O3 nz h3 => ?_
    have h3 := h2.trans h3
    have inj : InjS (tauF (namesOf rs) zs) (namesOf rs) := tau_inj (zs := zs) (met_nodup rs.flatten) nz.nd nz.len
    have inS : ∀ r ∈ rs, ∀ s ∈ r, s ∈ namesOf rs := fun r hr s hs => namesOf_mem hr hs
    have htm : (namesOf rs).map (tauF (namesOf rs) zs) = zs := tau_map (met_nodup rs.flatten) nz.len
    have tk : ∀ s ∈ namesOf rs, OkS (tauF (namesOf rs) zs s) := fun s hs => by
      have := List.mem_map_of_mem (f := tauF (namesOf rs) zs) hs
      rw [htm] at this
      exact nz.ok _ this
    generalize hτ : tauF (namesOf rs) zs = τ at *
    have q1 : ∀ O4 : Oh, O4.length = O3.length → Cl (O4 ++ [Cell.dic (kvM (fun s => .d (.str (τ s))) (namesOf rs))]) O3.length (Cell.dic (kvM (fun s => .d (.str (τ s))) (namesOf rs))) := fun O4 e => ⟨by rw [List.getElem?_append_right (by omega), e, Nat.sub_self]; rfl⟩
    haveI := q1 O3 rfl
    repeat refine Go.h ?_
    refine sp_toldN g ?_
    dsimp only [List.set_cons_succ, List.set_cons_zero]
    repeat refine Go.h ?_
    refine go_reprT hnd (by omega) nlow fun hok => ?_
    repeat refine Go.h ?_
    refine sp_due g ?_
    rw [due_told hnd]
    repeat refine Go.h ?_
    refine go_reprT hnd (by omega) nlow fun _ => ?_
    repeat refine Go.h ?_
    rw [decide_eq_false (by simp)]
    repeat refine Go.h ?_
    refine go_listOfK (f := fun s => .d (.str (τ s))) (by omega) nok ?_
    repeat refine Go.h ?_
    refine lc_mapI PyData.str (fun rest acc S => ∃ O2 ys done, S = O2 ++ [Cell.dic (kvM (fun s => .d (.str (τ s))) (namesOf rs))] ∧ Chg p B O2 ∧ acc = sD ys ∧ done ++ rest = namesOf rs ∧ ys.Sublist done) ⟨O3, [], [], rfl, h3, rfl, rfl, List.Sublist.refl _⟩ ?_ ?_
    rotate_left
    · rintro x rest acc S ⟨O4, ys, done, rfl, h4, rfl, e, sb⟩ C3 N3 hC3 hN3
      have hyl := sb.length_le
      have hdl : done.length ≤ (namesOf rs).length := by rw [← e]; simp
      repeat refine Go.h ?_
      refine chg_call (digit_draws (m := 2) (by decide) (by decide)) h4 fun v O5 ⟨d, e5, hd⟩ h5 => ?_
      subst e5
      repeat refine Go.h ?_
      refine dcase (fun z => ?_) (fun z => ?_)
      · repeat refine Go.h ?_
        exact hC3 _ _ (by simp; omega) ⟨O5, ys ++ [x], done ++ [x], rfl, h5, by simp, by rw [← e]; simp, List.Sublist.append sb (List.Sublist.refl _)⟩
      · repeat refine Go.h ?_
        exact hN3 _ ⟨O5, ys, done ++ [x], rfl, h5, rfl, by rw [← e]; simp, sb.trans (List.sublist_append_left _ _)⟩
    · rintro acc S ⟨O4, ys, done, rfl, h4, rfl, e, sb⟩
      rw [List.append_nil] at e
      subst e
      haveI := q1 O4 (by rw [h4.len, h3.len])
      repeat refine Go.h ?_
      have gren : GoodR (rs.map (List.map τ)) := ⟨by rw [List.length_map]; exact g.few, fun r hr => by
        obtain ⟨r2, h2, rfl⟩ := List.mem_map.mp hr
        refine ⟨nodup_ren inj (inS r2 h2) (hnd r2 h2), by rw [List.length_map]; exact (g.row r2 h2).2.1, fun s hs => ?_⟩
        obtain ⟨t, ht, rfl⟩ := List.mem_map.mp hs
        exact tk t (inS r2 h2 t ht)⟩
      have gmore : ∀ (rs2 : List (List Str)) (z : List Str), (∀ r ∈ rs2, r ∈ rs ∨ r = z) → rs2.length ≤ 6 → z.Nodup → (∀ s ∈ z, s ∈ namesOf rs) → GoodR rs2 := fun rs2 z hr hl nd hs => ⟨hl, fun r hrr => by
        rcases hr r hrr with hr | rfl
        · exact g.row r hr
        · exact ⟨nd, Nat.le_trans (nodup_sub_len nd hs) few, fun s h => nok s (hs s h)⟩⟩
      have h5 : rs.length ≤ 5 := rd.few
      have l8 : ∀ r ∈ rs, r.length ≤ 100 := fun r hr => by have := (g.row r hr).2.1; omega
      cases hm : mergedOf rs with
      | error ring =>
        have et : toldN rs = .none := by unfold toldN; rw [hm]
        rw [et]
        rw [show (if true = true then !isNone (W.d PyData.none) else isNone (W.d PyData.none)) = false from rfl]
        repeat refine Go.h ?_
        refine sp_renamed (S := namesOf rs) (τ := τ) (by omega) l8 inS ?_
        repeat refine Go.h ?_
        refine sp_toldN gren ?_
        obtain ⟨ring2, e2⟩ := ring_ren inj inS hm
        rw [show toldN (rs.map (List.map τ)) = .none by unfold toldN; rw [e2]]
        repeat refine Go.h ?_
        rw [show (if true = true then !isNone (W.d PyData.none) else isNone (W.d PyData.none)) = false from rfl]
        repeat refine Go.h ?_
        refine go_addR (ys := [ys]) (by simp; omega) ?_
        repeat refine Go.h ?_
        have hin : ∀ r, r ∈ rs ++ [ys] → r ∈ rs ∨ r = ys := fun r hr => by simpa using hr
        have gp := gmore (rs ++ [ys]) ys hin (by simp; omega) ((met_nodup _).sublist sb) (fun s hs => sb.subset hs)
        refine sp_toldN gp ?_
        obtain ⟨ring3, e3⟩ := ring_more (rs2 := rs ++ [ys]) hnd (fun r hr => (gp.row r hr).1) hm fun r hr => List.mem_append_left _ hr
        rw [show toldN (rs ++ [ys]) = .none by unfold toldN; rw [e3]]
        repeat refine Go.h ?_
        rw [show (if true = true then !isNone (W.d PyData.none) else isNone (W.d PyData.none)) = false from rfl]
        repeat refine Go.h ?_
        obtain ⟨L', eL⟩ := fin (M := [Cell.dic (kvM (fun s => W.d (.str (τ s))) (namesOf rs))]) h4
        rw [eL]
        exact hC _ _ ⟨L', _, _, _, _, _, _, _, rfl, rfl⟩
      | ok m =>
        have et : toldN rs = tS m := by unfold toldN; rw [hm]
        rw [et]
        rw [show (if true = true then !isNone (W.d (tS m)) else isNone (W.d (tS m))) = true from rfl]
        repeat refine Go.h ?_
        have mo0 := ok_order hnd hm
        have hml : m.length ≤ 8 := by rw [mo0.perm.length_eq]; exact few
        have hms : ∀ s ∈ m, s ∈ namesOf rs := fun s hs => mo0.perm.mem_iff.mp hs
        refine lc_mapD PyData.str (fun s => decide (s ∈ ys)) PyData.str trivial (by omega) (fun x _ C hC => ?_) (fun x _ _ C hC => ?_) ?_
        · repeat refine Go.h ?_
          exact hC
        · repeat refine Go.h ?_
          exact hC
        repeat refine Go.h ?_
        rw [cut_take, ← List.map_take]
        refine go_addR (xs := rs.take at_) (ys := [m]) (by simp; omega) ?_
        repeat refine Go.h ?_
        rw [cut_drop, ← List.map_drop]
        refine go_addR (xs := rs.take at_ ++ [m]) (ys := rs.drop at_) (by simp; omega) ?_
        repeat refine Go.h ?_
        have hin : ∀ r, r ∈ rs.take at_ ++ [m] ++ rs.drop at_ ↔ r ∈ rs ∨ r = m := fun r => by
          conv => rhs; rw [← List.take_append_drop at_ rs]
          simp only [List.mem_append, List.mem_singleton]
          constructor
          · rintro ((h | h) | h)
            · exact .inl (.inl h)
            · exact .inr h
            · exact .inl (.inr h)
          · rintro ((h | h) | h)
            · exact .inl (.inl h)
            · exact .inr h
            · exact .inl (.inr h)
        have gp1 := gmore _ m (fun r hr => (hin r).mp hr) (by simp; omega) mo0.nd hms
        refine sp_toldN gp1 ?_
        rw [show toldN (rs.take at_ ++ [m] ++ rs.drop at_) = tS m by unfold toldN; rw [merged_told hnd hm hin]]
        repeat refine Go.h ?_
        refine go_neSame (shp_tS 39 m) ?_
        repeat refine Go.h ?_
        refine go_addR (ys := [m.filter fun s => decide (s ∈ ys)]) (by simp; omega) ?_
        repeat refine Go.h ?_
        have gp2 := gmore (rs ++ [m.filter fun s => decide (s ∈ ys)]) (m.filter fun s => decide (s ∈ ys)) (fun r hr => by simpa using hr) (by simp; omega) (mo0.nd.sublist List.filter_sublist) (fun s hs => hms s (List.mem_filter.mp hs).1)
        refine sp_toldN gp2 ?_
        rw [show toldN (rs ++ [m.filter fun s => decide (s ∈ ys)]) = tS m by unfold toldN; rw [merged_part hnd hm]]
        repeat refine Go.h ?_
        refine go_neSame (shp_tS 39 m) ?_
        repeat refine Go.h ?_
        refine sp_renamed (S := namesOf rs) (τ := τ) (by omega) l8 inS ?_
        repeat refine Go.h ?_
        refine sp_toldN gren ?_
        rw [show toldN (rs.map (List.map τ)) = tS (m.map τ) by unfold toldN; rw [merged_ren inj inS hm]]
        repeat refine Go.h ?_
        refine sp_renamed (rs := [m]) (S := namesOf rs) (τ := τ) (by simp) (by simp; omega) (by simpa using hms) ?_
        repeat refine Go.h ?_
        refine go_neSame (shp_tS 39 (m.map τ)) ?_
        repeat refine Go.h ?_
        obtain ⟨L', eL⟩ := fin (M := [Cell.dic (kvM (fun s => W.d (.str (τ s))) (namesOf rs))]) h4
        rw [eL]
        exact hC _ _ ⟨L', _, _, _, _, _, _, _, rfl, rfl⟩
theorem law_true : ∀ (ns : List Int), ns.length ≤ 63 → ∀ (R : DK) (xe : Exn → Oh → Prop), (∀ O', R (.d (.bool true)) O') → w_law [.d (.dict [(.none, .list (ns.map PyData.int))])] [] R xe := fun ns _ R xe h => law_all h
end Dl
namespace Dl
open PySem PySem.Spec PyProof.Rows L2
def topS (i : Nat) : Stmt := PySem.Challenge.pw_parentlines_k13_whole_told_row_says_noth.main.body.getD i (.Pass ⟨0, 0, 0, 0⟩)
section
variable {P : Program} {w : World} {K : Fg} {mg : Str → Option Value} {base : Heap}
abbrev s_names_of : Stmt := topS 4
theorem sc_names_of : FnScope ["rows", "found", "row", "name"] ["rows"] (defScope s_names_of) := ⟨rfl, rfl, rfl, by decide +kernel, rfl, by decide +kernel, by decide +kernel⟩
theorem ok_names_of {f : Addr} {fd : FuncData} (F : Fun K "names_of" "names_of" s_names_of f fd) (nb : NB mg) : FnOk P w K mg base (L2N.CX P w) 1 f fd ["rows"] (liftF K mg w_names_of) :=
  ok_defC (k := 0) F sc_names_of fun cdv A outer s H E g =>
  (dss_cons (ds_set g rfl (by first | exact Or.inl rfl | exact Or.inr rfl) de_dicK)
  (dss_cons (ds_for g (.nm 2) (di_seq (de_var 0)) (pg_name (i := 2) g.nd rfl (by first | exact Or.inl rfl | exact Or.inr rfl))
   (dss_one (ds_for g (.nm 3) (di_seq (de_var 2)) (pg_name (i := 3) g.nd rfl (by first | exact Or.inl rfl | exact Or.inr rfl))
    (dss_one (ds_setI g (de_var 1) (de_var 3) de_bl)))))
  (dss_one (ds_ret (de_callTy (call_list2 g.calm) s_listC2 nb.list (by decide +kernel) (da_cons (de_var 1) da_nil))))))
abbrev s_wish_against : Stmt := topS 5
theorem sc_wish_against : FnScope ["rows", "left", "name", "k", "row", "ahead", "one"] ["rows", "left", "name"] (defScope s_wish_against) := ⟨rfl, rfl, rfl, by decide +kernel, rfl, by decide +kernel, by decide +kernel⟩
theorem ok_wish_against {f : Addr} {fd : FuncData} (F : Fun K "wish_against" "wish_against" s_wish_against f fd) (nb : NB mg) : FnOk P w K mg base (L2N.CX P w) 1 f fd ["rows", "left", "name"] (liftF K mg w_wish_against) :=
  ok_def (k := 0) F sc_wish_against fun cdv A outer s H E g =>
  (dss_cons (ds_for g (.tup [(.nm 3), (.nm 4)]) (di_enum nb.enumerate (da_cons (de_var 0) da_nil)) (pg_tup g.calm (pgs_cons (pg_name (i := 3) g.nd rfl (by first | exact Or.inl rfl | exact Or.inr rfl)) (pgs_cons (pg_name (i := 4) g.nd rfl (by first | exact Or.inl rfl | exact Or.inr rfl)) pgs_nil)))
   (dss_one (ds_if (dt_cmp (op_in5 g) s_in2 (de_var 2) (de_var 4))
    (dss_cons (by first | exact ds_setLc g rfl rfl (sw_true rfl rfl rfl (by decide +kernel)) (own := [("one", 6)]) (.nm 6) (by decide) (di_seq (de_slice (de_var 4) do_none (do_some (de_tm PySem.F.plainAttrs_tuple PySem.F.slot_tuple_index PySem.F.type_tuple_index mt_tup_index s_indexT (de_var 4) (da_cons (de_var 2) da_nil))))) (blk_ok (by kernel_rfl)) (fun s H C cl fp => (pg_name (i := 6) g.nd rfl (by first | exact Or.inl rfl | exact Or.inr rfl))) (fun s H C cl fp g => (dts_one (dt_cmp (op_in5 g) s_in2 (de_var 6) (de_var 1)))) (fun s H C cl fp g => (de_var 6)) | exact ds_set g rfl (by first | exact Or.inl rfl | exact Or.inr rfl) (de_lc g (own := [("one", 6)]) (.nm 6) (by decide) (di_seq (de_slice (de_var 4) do_none (do_some (de_tm PySem.F.plainAttrs_tuple PySem.F.slot_tuple_index PySem.F.type_tuple_index mt_tup_index s_indexT (de_var 4) (da_cons (de_var 2) da_nil))))) (blk_ok (by kernel_rfl)) (fun s H C cl fp => (pg_name (i := 6) g.nd rfl (by first | exact Or.inl rfl | exact Or.inr rfl))) (fun s H C cl fp g => (dts_one (dt_cmp (op_in5 g) s_in2 (de_var 6) (de_var 1)))) (fun s H C cl fp g => (de_var 6))))
    (dss_one (ds_if (dt_cmp (op_neG g) s_ne (de_var 5) (de_lst da_nil))
     (dss_one (ds_ret (de_tup (da_cons (de_var 3) (da_cons (de_ix2 g (de_var 5) de_int) (da_cons (de_var 2) da_nil))))))
     dss_nil)))
    dss_nil)))
  (dss_one (ds_ret de_non)))
abbrev s_ring_among : Stmt := topS 6
theorem sc_ring_among : FnScope ["rows", "left", "names", "wishes", "begin", "wish"] ["rows", "left"] (defScope s_ring_among) := ⟨rfl, rfl, rfl, by decide +kernel, rfl, by decide +kernel, by decide +kernel⟩
theorem ok_ring_among {f : Addr} {fd : FuncData} (F : Fun K "ring_among" "ring_among" s_ring_among f fd) (nb : NB mg) (T_wish_against : Has P w K mg base "wish_against" ["rows", "left", "name"] 1 w_wish_against) : FnOk P w K mg base (L2N.CX P w) 2 f fd ["rows", "left"] (liftF K mg w_ring_among) :=
  ok_def (k := 1) F sc_ring_among fun cdv A outer s H E g =>
  (dss_cons (ds_set g rfl (by first | exact Or.inl rfl | exact Or.inr rfl) (de_lstC (da_cons (de_ix2 g (de_var 1) de_int) da_nil)))
  (dss_cons (ds_set g rfl (by first | exact Or.inl rfl | exact Or.inr rfl) (de_lstC da_nil))
  (dss_cons (ds_while g (dt_cmp (op_eqG g) s_eq (de_lenSet g nb (de_var 2)) (de_callB call_len3 s_len nb.len (by decide +kernel) (da_cons (de_var 2) da_nil)))
   (dss_cons (ds_set g rfl (by first | exact Or.inl rfl | exact Or.inr rfl) (de_call0 g T_wish_against (by decide) (da_cons (de_var 0) (da_cons (de_var 1) (da_cons (de_ix2 g (de_var 2) (de_neg de_int)) da_nil)))))
   (dss_cons (ds_expr (de_bm PySem.F.plainAttrs_list PySem.F.slot_list_append PySem.F.type_list_append mt_append s_append tw_list (de_var 3) (da_cons (de_var 5) da_nil)))
   (dss_one (ds_expr (de_bm PySem.F.plainAttrs_list PySem.F.slot_list_append PySem.F.type_list_append mt_append s_append tw_list (de_var 2) (da_cons (de_ix2 g (de_var 5) de_int) da_nil)))))))
  (dss_cons (ds_set g rfl (by first | exact Or.inl rfl | exact Or.inr rfl) (de_bm PySem.F.plainAttrs_list PySem.F.slot_list_index PySem.F.type_list_index mt_index s_indexL tw_list (de_var 2) (da_cons (de_ix2 g (de_var 2) (de_neg de_int)) da_nil)))
  (dss_one (ds_ret (de_callTy call_tupOf s_tupOf nb.tuple (by decide +kernel) (da_cons (de_revL (de_slice (de_var 3) (do_some (de_var 4)) do_none)) da_nil))))))))
abbrev s_merged : Stmt := topS 7
theorem sc_merged : FnScope ["rows", "left", "found", "free", "name"] ["rows"] (defScope s_merged) := ⟨rfl, rfl, rfl, by decide +kernel, rfl, by decide +kernel, by decide +kernel⟩
theorem ok_merged {f : Addr} {fd : FuncData} (F : Fun K "merged" "merged" s_merged f fd) (nb : NB mg) (T_names_of : Has P w K mg base "names_of" ["rows"] 1 w_names_of) (T_ring_among : Has P w K mg base "ring_among" ["rows", "left"] 2 w_ring_among) (T_wish_against : Has P w K mg base "wish_against" ["rows", "left", "name"] 1 w_wish_against) (X_Ring : XCF P w K mg base "Ring" ["kind", "ring"]) : FnOk P w K mg base (L2N.CX P w) 3 f fd ["rows"] (liftF K mg w_merged) :=
  ok_def (k := 2) F sc_merged fun cdv A outer s H E g =>
  (dss_cons (ds_set g rfl (by first | exact Or.inl rfl | exact Or.inr rfl) (de_call0 g T_names_of (by decide) (da_cons (de_var 0) da_nil)))
  (dss_cons (ds_set g rfl (by first | exact Or.inl rfl | exact Or.inr rfl) (de_lstC da_nil))
  (dss_cons (ds_while g (dt_cmp (op_neG g) s_ne (de_var 1) (de_lst da_nil))
   (dss_cons (by first | exact ds_setLc g rfl rfl (sw_true rfl rfl rfl (by decide +kernel)) (own := [("name", 4)]) (.nm 4) (by decide) (di_seq (de_var 1)) (blk_ok (by kernel_rfl)) (fun s H C cl fp => (pg_name (i := 4) g.nd rfl (by first | exact Or.inl rfl | exact Or.inr rfl))) (fun s H C cl fp g => (dts_one (dt_cmp op_is2 s_is2 (de_call0 g T_wish_against (by decide) (da_cons (de_var 0) (da_cons (de_var 1) (da_cons (de_var 4) da_nil)))) de_non))) (fun s H C cl fp g => (de_var 4)) | exact ds_set g rfl (by first | exact Or.inl rfl | exact Or.inr rfl) (de_lc g (own := [("name", 4)]) (.nm 4) (by decide) (di_seq (de_var 1)) (blk_ok (by kernel_rfl)) (fun s H C cl fp => (pg_name (i := 4) g.nd rfl (by first | exact Or.inl rfl | exact Or.inr rfl))) (fun s H C cl fp g => (dts_one (dt_cmp op_is2 s_is2 (de_call0 g T_wish_against (by decide) (da_cons (de_var 0) (da_cons (de_var 1) (da_cons (de_var 4) da_nil)))) de_non))) (fun s H C cl fp g => (de_var 4))))
   (dss_cons (ds_if (dt_cmp (op_eqG g) s_eq (de_var 3) (de_lst da_nil))
    (dss_one (ds_raiseF g (by decide) X_Ring (ha := (da_cons de_non (da_cons (de_call0 g T_ring_among (by decide) (da_cons (de_var 0) (da_cons (de_var 1) da_nil))) da_nil)))))
    dss_nil)
   (dss_cons (ds_expr (de_bm PySem.F.plainAttrs_list PySem.F.slot_list_append PySem.F.type_list_append mt_append s_append tw_list (de_var 2) (da_cons (de_ix2 g (de_var 3) de_int) da_nil)))
   (dss_one (ds_expr (de_bm PySem.F.plainAttrs_list PySem.F.slot_list_remove PySem.F.type_list_remove mt_removeF s_remove tw_list (de_var 1) (da_cons (de_ix2 g (de_var 3) de_int) da_nil))))))))
  (dss_one (ds_ret (de_callTy call_tupOf s_tupOf nb.tuple (by decide +kernel) (da_cons (de_var 2) da_nil)))))))
abbrev s__law_pot : Stmt := topS 9
theorem sc__law_pot : FnScope ["_law_script", "_law_k", "_law_cell"] ["_law_script", "_law_k"] (defScope s__law_pot) := ⟨rfl, rfl, rfl, by decide +kernel, rfl, by decide +kernel, by decide +kernel⟩
theorem ok__law_pot {f : Addr} {fd : FuncData} (F : Fun K "_law_pot" "_law_pot" s__law_pot f fd) (nb : NB mg) : FnOk P w K mg base (L2N.CX P w) 1 f fd ["_law_script", "_law_k"] (liftF K mg w__law_pot) :=
  ok_defC (k := 0) F sc__law_pot fun cdv A outer s H E g =>
  (dss_cons (ds_set g rfl (by first | exact Or.inl rfl | exact Or.inr rfl) de_int)
  (dss_cons (ds_if (dt_cmp (op_lt2 g) s_lt2 (de_var 1) (de_callB call_len3 s_len nb.len (by decide +kernel) (da_cons (de_var 0) da_nil)))
   (dss_one (ds_set g rfl (by first | exact Or.inl rfl | exact Or.inr rfl) (de_ix2 g (de_var 0) (de_var 1))))
   dss_nil)
  (dss_one (ds_ret (de_lstC (da_cons (de_callB (call_max2 g.calm) s_max nb.max (by decide +kernel) (da_cons de_int (da_cons (de_op op_sub s_sub (de_callB call_abs s_abs nb.abs (by decide +kernel) (da_cons (de_var 2) da_nil)) (de_op op_pow s_pow de_int de_int)) da_nil))) (da_cons (de_op op_add4 s_add (de_op op_add4 s_add (de_op op_mod s_mod (de_callB call_abs s_abs nb.abs (by decide +kernel) (da_cons (de_var 2) da_nil)) de_int) (de_op op_mul s_mul de_int (de_var 1))) de_int) da_nil)))))))
abbrev s__law_digit : Stmt := topS 10
theorem sc__law_digit : FnScope ["_law_pot_here", "_law_many", "_law_digit_here"] ["_law_pot_here", "_law_many"] (defScope s__law_digit) := ⟨rfl, rfl, rfl, by decide +kernel, rfl, by decide +kernel, by decide +kernel⟩
theorem ok__law_digit {f : Addr} {fd : FuncData} (F : Fun K "_law_digit" "_law_digit" s__law_digit f fd) (nb : NB mg) : FnOk P w K mg base (L2N.CX P w) 1 f fd ["_law_pot_here", "_law_many"] (liftF K mg w__law_digit) :=
  ok_def (k := 0) F sc__law_digit fun cdv A outer s H E g =>
  (dss_cons (ds_if (dt_cmp (op_gt2 g) s_gt2 (de_ix2 g (de_var 0) de_int) de_int)
   (dss_cons (ds_set g rfl (by first | exact Or.inl rfl | exact Or.inr rfl) (de_op op_mod s_mod (de_ix2 g (de_var 0) de_int) (de_var 1)))
   (dss_cons (ds_setI g (de_var 0) de_int (de_op op_fdivW s_div (de_ix2 g (de_var 0) de_int) (de_var 1)))
   (dss_one (ds_ret (de_var 2)))))
   dss_nil)
  (dss_cons (ds_setI g (de_var 0) de_int (de_op op_mod s_mod (de_op op_add4 s_add (de_op op_mul s_mul (de_ix2 g (de_var 0) de_int) de_int) de_int) de_int))
  (dss_one (ds_ret (de_op op_mod s_mod (de_op op_fdivW s_div (de_op op_mod s_mod (de_op op_mul s_mul (de_ix2 g (de_var 0) de_int) (de_ix2 g (de_var 0) de_int)) de_int) de_int) (de_var 1))))))
abbrev s__law_names : Stmt := topS 11
theorem sc__law_names : FnScope ["_law_pot_here", "_law_many", "_law_letters", "_law_found", "_law_k", "_law_size", "_law_name", "_law_some", "_law_turn", "_law_one"] ["_law_pot_here", "_law_many"] (defScope s__law_names) := ⟨rfl, rfl, rfl, by decide +kernel, rfl, by decide +kernel, by decide +kernel⟩
theorem ok__law_names {f : Addr} {fd : FuncData} (F : Fun K "_law_names" "_law_names" s__law_names f fd) (nb : NB mg) (T__law_digit : Has P w K mg base "_law_digit" ["_law_pot_here", "_law_many"] 1 w__law_digit) : FnOk P w K mg base (L2N.CX P w) 2 f fd ["_law_pot_here", "_law_many"] (liftF K mg w__law_names) :=
  ok_def (k := 1) F sc__law_names fun cdv A outer s H E g =>
  (dss_cons (ds_set g rfl (by first | exact Or.inl rfl | exact Or.inr rfl) de_str)
  (dss_cons (ds_set g rfl (by first | exact Or.inl rfl | exact Or.inr rfl) (de_lstC da_nil))
  (dss_cons (ds_for g (.nm 4) (di_rng1 nb.range (da_cons (de_var 1) da_nil)) (pg_name (i := 4) g.nd rfl (by first | exact Or.inl rfl | exact Or.inr rfl))
   (dss_cons (ds_set g rfl (by first | exact Or.inl rfl | exact Or.inr rfl) (de_op op_add4 s_add de_int (de_call0 g T__law_digit (by decide) (da_cons (de_var 0) (da_cons (de_ix2 g (de_lst (da_cons de_int (da_cons de_int (da_cons de_int da_nil)))) (de_call0 g T__law_digit (by decide) (da_cons (de_var 0) (da_cons de_int da_nil)))) da_nil)))))
   (dss_cons (ds_set g rfl (by first | exact Or.inl rfl | exact Or.inr rfl) (de_join de_str (de_lc g (own := [("_law_turn", 8)]) (.nm 8) (by decide) (di_rng1 nb.range (da_cons (de_var 5) da_nil)) (blk_ok (by kernel_rfl)) (fun s H C cl fp => (pg_name (i := 8) g.nd rfl (by first | exact Or.inl rfl | exact Or.inr rfl))) (fun s H C cl fp g => dts_nil) (fun s H C cl fp g => (de_ix2 g (de_var 2) (de_call0 g T__law_digit (by decide) (da_cons (de_var 0) (da_cons de_int da_nil))))))))
   (dss_cons (ds_if (dt_cmp (op_in5 g) s_in2 (de_var 6) (de_var 3))
    (dss_cons (by first | exact ds_setLc g rfl rfl (sw_true rfl rfl rfl (by decide +kernel)) (own := [("_law_turn", 8)]) (.nm 8) (by decide) (di_rng1 nb.range (da_cons (de_op op_add4 s_add (de_var 1) de_int) da_nil)) (blk_ok (by kernel_rfl)) (fun s H C cl fp => (pg_name (i := 8) g.nd rfl (by first | exact Or.inl rfl | exact Or.inr rfl))) (fun s H C cl fp g => dts_nil) (fun s H C cl fp g => (de_op op_add4 s_add (de_op op_add4 s_add (de_slice (de_var 6) do_none (do_some de_int)) (de_ix2 g (de_var 2) (de_var 8))) de_str)) | exact ds_set g rfl (by first | exact Or.inl rfl | exact Or.inr rfl) (de_lc g (own := [("_law_turn", 8)]) (.nm 8) (by decide) (di_rng1 nb.range (da_cons (de_op op_add4 s_add (de_var 1) de_int) da_nil)) (blk_ok (by kernel_rfl)) (fun s H C cl fp => (pg_name (i := 8) g.nd rfl (by first | exact Or.inl rfl | exact Or.inr rfl))) (fun s H C cl fp g => dts_nil) (fun s H C cl fp g => (de_op op_add4 s_add (de_op op_add4 s_add (de_slice (de_var 6) do_none (do_some de_int)) (de_ix2 g (de_var 2) (de_var 8))) de_str))))
    (dss_one (ds_set g rfl (by first | exact Or.inl rfl | exact Or.inr rfl) (de_ix2 g (de_lc g (own := [("_law_one", 9)]) (.nm 9) (by decide) (di_seq (de_var 7)) (blk_ok (by kernel_rfl)) (fun s H C cl fp => (pg_name (i := 9) g.nd rfl (by first | exact Or.inl rfl | exact Or.inr rfl))) (fun s H C cl fp g => (dts_one (dt_cmp (op_notin5 g) s_in2 (de_var 9) (de_var 3)))) (fun s H C cl fp g => (de_var 9))) de_int))))
    dss_nil)
   (dss_one (ds_expr (de_bm PySem.F.plainAttrs_list PySem.F.slot_list_append PySem.F.type_list_append mt_append s_append tw_list (de_var 3) (da_cons (de_var 6) da_nil))))))))
  (dss_one (ds_ret (de_var 3))))))
abbrev s__law_shuffled : Stmt := topS 12
theorem sc__law_shuffled : FnScope ["_law_pot_here", "_law_names_here", "_law_left", "_law_found", "_law_turn"] ["_law_pot_here", "_law_names_here"] (defScope s__law_shuffled) := ⟨rfl, rfl, rfl, by decide +kernel, rfl, by decide +kernel, by decide +kernel⟩
theorem ok__law_shuffled {f : Addr} {fd : FuncData} (F : Fun K "_law_shuffled" "_law_shuffled" s__law_shuffled f fd) (nb : NB mg) (T__law_digit : Has P w K mg base "_law_digit" ["_law_pot_here", "_law_many"] 1 w__law_digit) : FnOk P w K mg base (L2N.CX P w) 2 f fd ["_law_pot_here", "_law_names_here"] (liftF K mg w__law_shuffled) :=
  ok_def (k := 1) F sc__law_shuffled fun cdv A outer s H E g =>
  (dss_cons (ds_set g rfl (by first | exact Or.inl rfl | exact Or.inr rfl) (de_callTy (call_list2 g.calm) s_listC2 nb.list (by decide +kernel) (da_cons (de_var 1) da_nil)))
  (dss_cons (ds_set g rfl (by first | exact Or.inl rfl | exact Or.inr rfl) (de_lstC da_nil))
  (dss_cons (ds_for g (.nm 4) (di_rng1 nb.range (da_cons (de_callB call_len3 s_len nb.len (by decide +kernel) (da_cons (de_var 1) da_nil)) da_nil)) (pg_name (i := 4) g.nd rfl (by first | exact Or.inl rfl | exact Or.inr rfl))
   (dss_one (ds_expr (de_bm PySem.F.plainAttrs_list PySem.F.slot_list_append PySem.F.type_list_append mt_append s_append tw_list (de_var 3) (da_cons (de_bm PySem.F.plainAttrs_list PySem.F.slot_list_pop PySem.F.type_list_pop mt_popAt s_popAt tw_list (de_var 2) (da_cons (de_call0 g T__law_digit (by decide) (da_cons (de_var 0) (da_cons (de_callB call_len3 s_len nb.len (by decide +kernel) (da_cons (de_var 2) da_nil)) da_nil))) da_nil)) da_nil)))))
  (dss_one (ds_ret (de_var 3))))))
abbrev s__law_rows : Stmt := topS 13
theorem sc__law_rows : FnScope ["_law_pot_here", "_law_most_names", "_law_most_rows", "_law_names_here", "_law_rows_here", "_law_turn", "_law_way", "_law_many", "_law_some", "_law_row", "_law_at", "_law_name"] ["_law_pot_here", "_law_most_names", "_law_most_rows"] (defScope s__law_rows) := ⟨rfl, rfl, rfl, by decide +kernel, rfl, by decide +kernel, by decide +kernel⟩
theorem ok__law_rows {f : Addr} {fd : FuncData} (F : Fun K "_law_rows" "_law_rows" s__law_rows f fd) (nb : NB mg) (T__law_digit : Has P w K mg base "_law_digit" ["_law_pot_here", "_law_many"] 1 w__law_digit) (T__law_names : Has P w K mg base "_law_names" ["_law_pot_here", "_law_many"] 2 w__law_names) (T__law_shuffled : Has P w K mg base "_law_shuffled" ["_law_pot_here", "_law_names_here"] 2 w__law_shuffled) : FnOk P w K mg base (L2N.CX P w) 3 f fd ["_law_pot_here", "_law_most_names", "_law_most_rows"] (liftF K mg w__law_rows) :=
  ok_def (k := 2) F sc__law_rows fun cdv A outer s H E g =>
  (dss_cons (by first | exact ds_par g rfl rfl (by decide) rfl rfl (da_cons (de_call0 g T__law_digit (by decide) (da_cons (de_var 0) (da_cons de_int da_nil))) (da_cons (de_call0 g T__law_digit (by decide) (da_cons (de_var 0) (da_cons (de_op op_add4 s_add (de_var 2) de_int) da_nil))) da_nil)) rfl | exact ds_parT g rfl rfl (by decide) (da_cons (de_call0 g T__law_digit (by decide) (da_cons (de_var 0) (da_cons de_int da_nil))) (da_cons (de_call0 g T__law_digit (by decide) (da_cons (de_var 0) (da_cons (de_op op_add4 s_add (de_var 2) de_int) da_nil))) da_nil)) (hp := (pgs_cons (pg_name (i := 6) g.nd rfl (by first | exact Or.inl rfl | exact Or.inr rfl)) (pgs_cons (pg_name (i := 7) g.nd rfl (by first | exact Or.inl rfl | exact Or.inr rfl)) pgs_nil))))
  (dss_cons (ds_set g rfl (by first | exact Or.inl rfl | exact Or.inr rfl) (de_call0 g T__law_shuffled (by decide) (da_cons (de_var 0) (da_cons (de_call0 g T__law_names (by decide) (da_cons (de_var 0) (da_cons (de_call0 g T__law_digit (by decide) (da_cons (de_var 0) (da_cons (de_op op_add4 s_add (de_var 1) de_int) da_nil))) da_nil))) da_nil))))
  (dss_cons (ds_set g rfl (by first | exact Or.inl rfl | exact Or.inr rfl) (de_lstC da_nil))
  (dss_cons (ds_for g (.nm 5) (di_rng1 nb.range (da_cons (de_var 7) da_nil)) (pg_name (i := 5) g.nd rfl (by first | exact Or.inl rfl | exact Or.inr rfl))
   (dss_cons (ds_set g rfl (by first | exact Or.inl rfl | exact Or.inr rfl) (de_callTy (call_list2 g.calm) s_listOf2 nb.list (by decide +kernel) (da_cons (de_var 3) da_nil)))
   (dss_cons (ds_if (dt_cmp (op_eqG g) s_eq (de_var 6) de_int)
    (dss_one (ds_set g rfl (by first | exact Or.inl rfl | exact Or.inr rfl) (de_call0 g T__law_shuffled (by decide) (da_cons (de_var 0) (da_cons (de_var 3) da_nil)))))
    dss_nil)
   (dss_cons (by first | exact ds_setLc g rfl rfl (sw_true rfl rfl rfl (by decide +kernel)) (own := [("_law_name", 11)]) (.nm 11) (by decide) (di_seq (de_var 8)) (blk_ok (by kernel_rfl)) (fun s H C cl fp => (pg_name (i := 11) g.nd rfl (by first | exact Or.inl rfl | exact Or.inr rfl))) (fun s H C cl fp g => (dts_one (dt_cmp (op_gt2 g) s_gt2 (de_call0 g T__law_digit (by decide) (da_cons (de_var 0) (da_cons de_int da_nil))) de_int))) (fun s H C cl fp g => (de_var 11)) | exact ds_set g rfl (by first | exact Or.inl rfl | exact Or.inr rfl) (de_lc g (own := [("_law_name", 11)]) (.nm 11) (by decide) (di_seq (de_var 8)) (blk_ok (by kernel_rfl)) (fun s H C cl fp => (pg_name (i := 11) g.nd rfl (by first | exact Or.inl rfl | exact Or.inr rfl))) (fun s H C cl fp g => (dts_one (dt_cmp (op_gt2 g) s_gt2 (de_call0 g T__law_digit (by decide) (da_cons (de_var 0) (da_cons de_int da_nil))) de_int))) (fun s H C cl fp g => (de_var 11))))
   (dss_cons (ds_if (DW.t (dw_and (dt_cmp (op_eqG g) s_eq (de_var 6) de_int) (dw_and (dt_cmp (op_gt2 g) s_gt2 (de_callB call_len3 s_len nb.len (by decide +kernel) (da_cons (de_var 9) da_nil)) de_int) (dw_and1 (dt_cmp (op_eqG g) s_eq (de_call0 g T__law_digit (by decide) (da_cons (de_var 0) (da_cons de_int da_nil))) de_int)))))
    (dss_cons (ds_set g rfl (by first | exact Or.inl rfl | exact Or.inr rfl) (de_call0 g T__law_digit (by decide) (da_cons (de_var 0) (da_cons (de_op op_sub s_sub (de_callB call_len3 s_len nb.len (by decide +kernel) (da_cons (de_var 9) da_nil)) de_int) da_nil))))
    (dss_one (ds_set g rfl (by first | exact Or.inl rfl | exact Or.inr rfl) (de_op op_add4 s_add (de_op op_add4 s_add (de_slice (de_var 9) do_none (do_some (de_var 10))) (de_lst (da_cons (de_ix2 g (de_var 9) (de_op op_add4 s_add (de_var 10) de_int)) (da_cons (de_ix2 g (de_var 9) (de_var 10)) da_nil)))) (de_slice (de_var 9) (do_some (de_op op_add4 s_add (de_var 10) de_int)) do_none)))))
    dss_nil)
   (dss_one (ds_expr (de_bm PySem.F.plainAttrs_list PySem.F.slot_list_append PySem.F.type_list_append mt_append s_append tw_list (de_var 4) (da_cons (de_callTy call_tupOf s_tupOf nb.tuple (by decide +kernel) (da_cons (de_var 9) da_nil)) da_nil)))))))))
  (dss_one (ds_ret (de_callTy call_tupOf s_tupOf nb.tuple (by decide +kernel) (da_cons (de_var 4) da_nil))))))))
abbrev s__law_told : Stmt := topS 14
theorem sc__law_told : FnScope ["_law_rows_here", "_law_told_here"] ["_law_rows_here"] (defScope s__law_told) := ⟨rfl, rfl, rfl, by decide +kernel, rfl, by decide +kernel, by decide +kernel⟩
theorem ok__law_told {f : Addr} {fd : FuncData} (F : Fun K "_law_told" "_law_told" s__law_told f fd) (nb : NB mg) (T_merged : Has P w K mg base "merged" ["rows"] 3 w_merged) (X_Ring : XCF P w K mg base "Ring" ["kind", "ring"]) (S_Ring : SubC K mg "Ring" [("LineError", false), ("Ring", true)]) : FnOk P w K mg base (L2N.CX P w) 4 f fd ["_law_rows_here"] (liftF K mg w__law_told) :=
  ok_def (k := 3) F sc__law_told fun cdv A outer s H E g =>
  (dss_cons (ds_set g rfl (by first | exact Or.inl rfl | exact Or.inr rfl) de_non)
  (dss_cons (ds_tryC g rfl rfl S_Ring (fun W pn xe g =>
   (dss_one (ds_set g rfl (by first | exact Or.inl rfl | exact Or.inr rfl) (de_callH g T_merged (by decide) (da_cons (de_var 0) da_nil))))) (fun a oe pn hf =>
   (dss_one (ds_setS (by exact g.nd) rfl (by first | exact Or.inl rfl | exact Or.inr rfl) de_non))))
  (dss_one (ds_ret (de_var 1)))))
abbrev s__law_is_behind : Stmt := topS 15
theorem sc__law_is_behind : FnScope ["_law_rows_here", "_law_left", "_law_name", "_law_row", "_law_some", "_law_one"] ["_law_rows_here", "_law_left", "_law_name"] (defScope s__law_is_behind) := ⟨rfl, rfl, rfl, by decide +kernel, rfl, by decide +kernel, by decide +kernel⟩
theorem ok__law_is_behind {f : Addr} {fd : FuncData} (F : Fun K "_law_is_behind" "_law_is_behind" s__law_is_behind f fd) (nb : NB mg) : FnOk P w K mg base (L2N.CX P w) 1 f fd ["_law_rows_here", "_law_left", "_law_name"] (liftF K mg w__law_is_behind) :=
  ok_def (k := 0) F sc__law_is_behind fun cdv A outer s H E g =>
  (dss_cons (ds_for g (.nm 3) (di_seq (de_var 0)) (pg_name (i := 3) g.nd rfl (by first | exact Or.inl rfl | exact Or.inr rfl))
   (dss_cons (by first | exact ds_setLc g rfl rfl (sw_true rfl rfl rfl (by decide +kernel)) (own := [("_law_one", 5)]) (.nm 5) (by decide) (di_seq (de_var 3)) (blk_ok (by kernel_rfl)) (fun s H C cl fp => (pg_name (i := 5) g.nd rfl (by first | exact Or.inl rfl | exact Or.inr rfl))) (fun s H C cl fp g => (dts_one (dt_cmp (op_in5 g) s_in2 (de_var 5) (de_var 1)))) (fun s H C cl fp g => (de_var 5)) | exact ds_set g rfl (by first | exact Or.inl rfl | exact Or.inr rfl) (de_lc g (own := [("_law_one", 5)]) (.nm 5) (by decide) (di_seq (de_var 3)) (blk_ok (by kernel_rfl)) (fun s H C cl fp => (pg_name (i := 5) g.nd rfl (by first | exact Or.inl rfl | exact Or.inr rfl))) (fun s H C cl fp g => (dts_one (dt_cmp (op_in5 g) s_in2 (de_var 5) (de_var 1)))) (fun s H C cl fp g => (de_var 5))))
   (dss_one (ds_if (dt_cmp (op_in5 g) s_in2 (de_var 2) (de_slice (de_var 4) (do_some de_int) do_none))
    (dss_one (ds_ret de_bl))
    dss_nil))))
  (dss_one (ds_ret de_bl)))
abbrev s__law_first : Stmt := topS 16
theorem sc__law_first : FnScope ["_law_rows_here", "_law_left", "_law_row", "_law_some", "_law_name"] ["_law_rows_here", "_law_left"] (defScope s__law_first) := ⟨rfl, rfl, rfl, by decide +kernel, rfl, by decide +kernel, by decide +kernel⟩
theorem ok__law_first {f : Addr} {fd : FuncData} (F : Fun K "_law_first" "_law_first" s__law_first f fd) (nb : NB mg) (T__law_is_behind : Has P w K mg base "_law_is_behind" ["_law_rows_here", "_law_left", "_law_name"] 1 w__law_is_behind) : FnOk P w K mg base (L2N.CX P w) 2 f fd ["_law_rows_here", "_law_left"] (liftF K mg w__law_first) :=
  ok_def (k := 1) F sc__law_first fun cdv A outer s H E g =>
  (dss_cons (ds_for g (.nm 2) (di_seq (de_var 0)) (pg_name (i := 2) g.nd rfl (by first | exact Or.inl rfl | exact Or.inr rfl))
   (dss_cons (by first | exact ds_setLc g rfl rfl (sw_true rfl rfl rfl (by decide +kernel)) (own := [("_law_name", 4)]) (.nm 4) (by decide) (di_seq (de_var 2)) (blk_ok (by kernel_rfl)) (fun s H C cl fp => (pg_name (i := 4) g.nd rfl (by first | exact Or.inl rfl | exact Or.inr rfl))) (fun s H C cl fp g => (dts_one (dt_cmp (op_in5 g) s_in2 (de_var 4) (de_var 1)))) (fun s H C cl fp g => (de_var 4)) | exact ds_set g rfl (by first | exact Or.inl rfl | exact Or.inr rfl) (de_lc g (own := [("_law_name", 4)]) (.nm 4) (by decide) (di_seq (de_var 2)) (blk_ok (by kernel_rfl)) (fun s H C cl fp => (pg_name (i := 4) g.nd rfl (by first | exact Or.inl rfl | exact Or.inr rfl))) (fun s H C cl fp g => (dts_one (dt_cmp (op_in5 g) s_in2 (de_var 4) (de_var 1)))) (fun s H C cl fp g => (de_var 4))))
   (dss_one (ds_if (DW.t (dw_and (dt_cmp (op_neG g) s_ne (de_var 3) (de_lst da_nil)) (dw_and1 (dt_not (dt_val (de_call0 g T__law_is_behind (by decide) (da_cons (de_var 0) (da_cons (de_var 1) (da_cons (de_ix2 g (de_var 3) de_int) da_nil)))))))))
    (dss_one (ds_ret (de_ix2 g (de_var 3) de_int)))
    dss_nil))))
  (dss_one (ds_ret de_non)))
abbrev s__law_due : Stmt := topS 17
theorem sc__law_due : FnScope ["_law_rows_here", "_law_left", "_law_row", "_law_found", "_law_turn", "_law_name"] ["_law_rows_here"] (defScope s__law_due) := ⟨rfl, rfl, rfl, by decide +kernel, rfl, by decide +kernel, by decide +kernel⟩
theorem ok__law_due {f : Addr} {fd : FuncData} (F : Fun K "_law_due" "_law_due" s__law_due f fd) (nb : NB mg) (T__law_first : Has P w K mg base "_law_first" ["_law_rows_here", "_law_left"] 2 w__law_first) : FnOk P w K mg base (L2N.CX P w) 3 f fd ["_law_rows_here"] (liftF K mg w__law_due) :=
  ok_def (k := 2) F sc__law_due fun cdv A outer s H E g =>
  (dss_cons (ds_set g rfl (by first | exact Or.inl rfl | exact Or.inr rfl) (de_lstC da_nil))
  (dss_cons (ds_for g (.nm 2) (di_seq (de_var 0)) (pg_name (i := 2) g.nd rfl (by first | exact Or.inl rfl | exact Or.inr rfl))
   (dss_one (ds_for g (.nm 5) (di_seq (de_var 2)) (pg_name (i := 5) g.nd rfl (by first | exact Or.inl rfl | exact Or.inr rfl))
    (dss_one (ds_if (dt_cmp (op_notin5 g) s_in2 (de_var 5) (de_var 1))
     (dss_one (ds_expr (de_bm PySem.F.plainAttrs_list PySem.F.slot_list_append PySem.F.type_list_append mt_append s_append tw_list (de_var 1) (da_cons (de_var 5) da_nil))))
     dss_nil)))))
  (dss_cons (ds_set g rfl (by first | exact Or.inl rfl | exact Or.inr rfl) (de_lstC da_nil))
  (dss_cons (ds_for g (.nm 4) (di_rng1 nb.range (da_cons (de_callB call_len3 s_len nb.len (by decide +kernel) (da_cons (de_var 1) da_nil)) da_nil)) (pg_name (i := 4) g.nd rfl (by first | exact Or.inl rfl | exact Or.inr rfl))
   (dss_cons (ds_set g rfl (by first | exact Or.inl rfl | exact Or.inr rfl) (de_call0 g T__law_first (by decide) (da_cons (de_var 0) (da_cons (de_var 1) da_nil))))
   (dss_cons (ds_if (dt_cmp op_is2 s_is2 (de_var 5) de_non)
    (dss_one (ds_ret de_non))
    dss_nil)
   (dss_cons (ds_expr (de_bm PySem.F.plainAttrs_list PySem.F.slot_list_append PySem.F.type_list_append mt_append s_append tw_list (de_var 3) (da_cons (de_var 5) da_nil)))
   (dss_one (ds_expr (de_bm PySem.F.plainAttrs_list PySem.F.slot_list_remove PySem.F.type_list_remove mt_removeF s_remove tw_list (de_var 1) (da_cons (de_var 5) da_nil))))))))
  (dss_one (ds_ret (de_callTy call_tupOf s_tupOf nb.tuple (by decide +kernel) (da_cons (de_var 3) da_nil))))))))
abbrev s__law_renamed : Stmt := topS 18
theorem sc__law_renamed : FnScope ["_law_rows_here", "_law_named", "_law_row", "_law_name"] ["_law_rows_here", "_law_named"] (defScope s__law_renamed) := ⟨rfl, rfl, rfl, by decide +kernel, rfl, by decide +kernel, by decide +kernel⟩
theorem ok__law_renamed {f : Addr} {fd : FuncData} (F : Fun K "_law_renamed" "_law_renamed" s__law_renamed f fd) (nb : NB mg) : FnOk P w K mg base (L2N.CX P w) 1 f fd ["_law_rows_here", "_law_named"] (liftF K mg w__law_renamed) :=
  ok_def (k := 0) F sc__law_renamed fun cdv A outer s H E g =>
  (dss_one (ds_ret (de_callTy call_tupOf s_tupOf nb.tuple (by decide +kernel) (da_cons (de_lc g (own := [("_law_row", 2)]) (.nm 2) (by decide) (di_seq (de_var 0)) (blk_ok (by kernel_rfl)) (fun s H C cl fp => (pg_name (i := 2) g.nd rfl (by first | exact Or.inl rfl | exact Or.inr rfl))) (fun s H C cl fp g => dts_nil) (fun s H C cl fp g => (de_callTy call_tupOf s_tupOf nb.tuple (by decide +kernel) (da_cons (de_lc g (own := [("_law_name", 3)]) (.nm 3) (by decide) (di_seq (de_var 2)) (blk_ok (by kernel_rfl)) (fun s H C cl fp => (pg_name (i := 3) g.nd rfl (by first | exact Or.inl rfl | exact Or.inr rfl))) (fun s H C cl fp g => dts_nil) (fun s H C cl fp g => (de_ix2 g (de_var 1) (de_var 3)))) da_nil)))) da_nil))))
abbrev s__law_other_names : Stmt := topS 19
theorem sc__law_other_names : FnScope ["_law_pot_here", "_law_rows_here", "_law_names_here", "_law_row", "_law_name"] ["_law_pot_here", "_law_rows_here"] (defScope s__law_other_names) := ⟨rfl, rfl, rfl, by decide +kernel, rfl, by decide +kernel, by decide +kernel⟩
theorem ok__law_other_names {f : Addr} {fd : FuncData} (F : Fun K "_law_other_names" "_law_other_names" s__law_other_names f fd) (nb : NB mg) (T__law_names : Has P w K mg base "_law_names" ["_law_pot_here", "_law_many"] 2 w__law_names) (T__law_shuffled : Has P w K mg base "_law_shuffled" ["_law_pot_here", "_law_names_here"] 2 w__law_shuffled) : FnOk P w K mg base (L2N.CX P w) 3 f fd ["_law_pot_here", "_law_rows_here"] (liftF K mg w__law_other_names) :=
  ok_defC (k := 2) F sc__law_other_names fun cdv A outer s H E g =>
  (dss_cons (ds_set g rfl (by first | exact Or.inl rfl | exact Or.inr rfl) de_dicK)
  (dss_cons (ds_for g (.nm 3) (di_seq (de_var 1)) (pg_name (i := 3) g.nd rfl (by first | exact Or.inl rfl | exact Or.inr rfl))
   (dss_one (ds_for g (.nm 4) (di_seq (de_var 3)) (pg_name (i := 4) g.nd rfl (by first | exact Or.inl rfl | exact Or.inr rfl))
    (dss_one (ds_setI g (de_var 2) (de_var 4) de_bl)))))
  (dss_one (ds_ret (de_dictZip g nb (da_cons (de_callTy (call_list2 g.calm) s_listOf2 nb.list (by decide +kernel) (da_cons (de_var 2) da_nil)) (da_cons (de_call0 g T__law_shuffled (by decide) (da_cons (de_var 0) (da_cons (de_call0 g T__law_names (by decide) (da_cons (de_var 0) (da_cons (de_callB call_lenRd s_lenD nb.len (by decide +kernel) (da_cons (de_var 2) da_nil)) da_nil))) da_nil))) da_nil)))))))
abbrev s_law : Stmt := topS 20
theorem sc_law : FnScope ["_law_script", "_law_k", "_law_pot_here", "_law_at", "_law_rows_here", "_law_named", "_law_told_here", "_law_part", "_law_name"] ["_law_script"] (defScope s_law) := ⟨rfl, rfl, rfl, by decide +kernel, rfl, by decide +kernel, by decide +kernel⟩
theorem ok_law {f : Addr} {fd : FuncData} (F : Fun K "law" "law" s_law f fd) (nb : NB mg) (T__law_digit : Has P w K mg base "_law_digit" ["_law_pot_here", "_law_many"] 1 w__law_digit) (T__law_due : Has P w K mg base "_law_due" ["_law_rows_here"] 3 w__law_due) (T__law_other_names : Has P w K mg base "_law_other_names" ["_law_pot_here", "_law_rows_here"] 3 w__law_other_names) (T__law_pot : Has P w K mg base "_law_pot" ["_law_script", "_law_k"] 1 w__law_pot) (T__law_renamed : Has P w K mg base "_law_renamed" ["_law_rows_here", "_law_named"] 1 w__law_renamed) (T__law_rows : Has P w K mg base "_law_rows" ["_law_pot_here", "_law_most_names", "_law_most_rows"] 3 w__law_rows) (T__law_told : Has P w K mg base "_law_told" ["_law_rows_here"] 4 w__law_told) : FnOkG P w K mg base (LM.CX true P w) 5 f fd ["_law_script"] (liftF K mg w_law) :=
  ok_defZG (k := 4) F sc_law fun cdv A outer s H E g tz hgd =>
  (dss_cons (ds_for g (.nm 1) (di_rng1 nb.range (da_cons (de_callB (call_max2 g.calm) s_max nb.max (by decide +kernel) (da_cons de_int (da_cons (de_callB (call_min2 g.calm) s_min nb.min (by decide +kernel) (da_cons de_int (da_cons (de_callB call_len3 s_len nb.len (by decide +kernel) (da_cons (de_var 0) da_nil)) da_nil))) da_nil))) da_nil)) (pg_name (i := 1) g.nd rfl (by first | exact Or.inl rfl | exact Or.inr rfl))
   (dss_cons (ds_set g rfl (by first | exact Or.inl rfl | exact Or.inr rfl) (de_call0 g T__law_pot (by decide) (da_cons (de_var 0) (da_cons (de_var 1) da_nil))))
   (dss_cons (ds_set g rfl (by first | exact Or.inl rfl | exact Or.inr rfl) (de_call0 g T__law_digit (by decide) (da_cons (de_var 2) (da_cons de_int da_nil))))
   (dss_cons (ds_set g rfl (by first | exact Or.inl rfl | exact Or.inr rfl) (de_call0 g T__law_rows (by decide) (da_cons (de_var 2) (da_cons de_int (da_cons de_int da_nil)))))
   (dss_cons (ds_set g rfl (by first | exact Or.inl rfl | exact Or.inr rfl) (de_call0 g T__law_other_names (by decide) (da_cons (de_var 2) (da_cons (de_var 4) da_nil))))
   (dss_cons (ds_set g rfl (by first | exact Or.inl rfl | exact Or.inr rfl) (de_callH g T__law_told (by decide) (da_cons (de_var 4) da_nil)))
   (dss_cons (ds_if (dt_cmp (op_neG g) s_ne (de_callB (call_reprG hgd (hu100 g.rm)) s_repr nb.repr (by decide +kernel) (da_cons (de_var 6) da_nil)) (de_callB (call_reprG hgd (hu100 g.rm)) s_repr nb.repr (by decide +kernel) (da_cons (de_call0 g T__law_due (by decide) (da_cons (de_var 4) da_nil)) da_nil)))
    (dss_one (ds_ret de_bl))
    dss_nil)
   (dss_cons (ds_set g rfl (by first | exact Or.inl rfl | exact Or.inr rfl) (de_callTy call_tupOf s_tupOf nb.tuple (by decide +kernel) (da_cons (de_lc g (own := [("_law_name", 8)]) (.nm 8) (by decide) (di_seq (de_callTy (call_list2 g.calm) s_listOf2 nb.list (by decide +kernel) (da_cons (de_var 5) da_nil))) (blk_ok (by kernel_rfl)) (fun s H C cl fp => (pg_name (i := 8) g.nd rfl (by first | exact Or.inl rfl | exact Or.inr rfl))) (fun s H C cl fp g => (dts_one (dt_cmp (op_eqG g) s_eq (de_call0 g T__law_digit (by decide) (da_cons (de_var 2) (da_cons de_int da_nil))) de_int))) (fun s H C cl fp g => (de_var 8))) da_nil)))
   (dss_one (ds_if (dt_cmp op_isnot2 s_isnot2 (de_var 6) de_non)
    (dss_cons (ds_set g rfl (by first | exact Or.inl rfl | exact Or.inr rfl) (de_callTy call_tupOf s_tupOf nb.tuple (by decide +kernel) (da_cons (de_lc g (own := [("_law_name", 8)]) (.nm 8) (by decide) (di_seq (de_var 6)) (blk_ok (by kernel_rfl)) (fun s H C cl fp => (pg_name (i := 8) g.nd rfl (by first | exact Or.inl rfl | exact Or.inr rfl))) (fun s H C cl fp g => (dts_one (dt_cmp (op_in5 g) s_in2 (de_var 8) (de_var 7)))) (fun s H C cl fp g => (de_var 8))) da_nil)))
    (dss_cons (ds_if (DW.t (dw_or (dt_cmp (op_neG g) s_ne (de_callH g T__law_told (by decide) (da_cons (de_op op_add4 s_add (de_op op_add4 s_add (de_slice (de_var 4) do_none (do_some (de_var 3))) (de_tup (da_cons (de_var 6) da_nil))) (de_slice (de_var 4) (do_some (de_var 3)) do_none)) da_nil)) (de_var 6)) (dw_or1 (dt_cmp (op_neG g) s_ne (de_callH g T__law_told (by decide) (da_cons (de_op op_add4 s_add (de_var 4) (de_tup (da_cons (de_var 7) da_nil))) da_nil)) (de_var 6)))))
     (dss_one (ds_ret de_bl))
     dss_nil)
    (dss_one (ds_if (dt_cmp (op_neG g) s_ne (de_callH g T__law_told (by decide) (da_cons (de_call0 g T__law_renamed (by decide) (da_cons (de_var 4) (da_cons (de_var 5) da_nil))) da_nil)) (de_ix2 g (de_call0 g T__law_renamed (by decide) (da_cons (de_tup (da_cons (de_var 6) da_nil)) (da_cons (de_var 5) da_nil))) de_int))
     (dss_one (ds_ret de_bl))
     dss_nil))))
    (dss_one (ds_if (DW.t (dw_or (dt_cmp op_isnot2 s_isnot2 (de_callH g T__law_told (by decide) (da_cons (de_call0 g T__law_renamed (by decide) (da_cons (de_var 4) (da_cons (de_var 5) da_nil))) da_nil)) de_non) (dw_or1 (dt_cmp op_isnot2 s_isnot2 (de_callH g T__law_told (by decide) (da_cons (de_op op_add4 s_add (de_var 4) (de_tup (da_cons (de_var 7) da_nil))) da_nil)) de_non))))
     (dss_one (ds_ret de_bl))
     dss_nil))))))))))))
  (dss_one (ds_ret de_bl)))
end
def spLaw (K : Fg) : Sp := fun vs H Q _ => ∃ (a : Addr) (ns : List Int), vs = [.ref a] ∧ SqL K H a (ns.map V.int) ∧ ns.length ≤ 63 ∧ ∀ H', Q (.bl true) H'
abbrev s_Ringi : Stmt := inClass (topS 2) 0
theorem sc_Ringi : FnScope ["self", "kind", "ring"] ["self", "kind", "ring"] (defScope s_Ringi) := ⟨rfl, rfl, rfl, by decide +kernel, rfl, by decide +kernel, by decide +kernel⟩
theorem ok_Ringi {P : Program} {w : World} {K : Fg} {mg : Str → Option Value} {base : Heap} {f : Addr} {fd : FuncData} (F : Fun K "__init__" "Ring.__init__" s_Ringi f fd) (B : BaseC K mg "LineError") : FnOk P w K mg base CX0 1 f fd ["self", "kind", "ring"] (spIni K ["kind", "ring"]) := by
  refine F.ok sc_Ringi (fun vs H Q E h => ?_) (fun cdv A outer s H vs Q E hr h => ?_)
  · obtain ⟨a, C, us, rfl, hl, _⟩ := h
    rw [List.length_cons, hl]; rfl
  · exact ⟨_, pss_cons (ps_expr (pe_leinit (pl := _) rfl B (pa_cons (pv 0) (pa_cons pe_str pa_nil)))) (pss_cons (ps_ost (pv 0) (pv 1)) (pss_one (ps_ost (pv 0) (pv 2)))), ini2 rfl h⟩
theorem all_mk {l : PySem.W.OpenLaw} {w : World} {K : Fg} {h : Heap} {mg : Str → Option Value} {fa : Addr} (X : K.In h) (G : h.Ns mainGlobals mg) (hfa : mg "law" = some (.ref fa))
    {C_LineError : Addr}
    {C_Ring : Addr}
    {nm_Ring q_Ring : Str} {N_Ring : Addr} {bs_Ring bm_Ring : List Value} {sn_Ring : List Str} {sub_Ring : List Value} {ab_Ring : Bool} {col_Ring : Option Bool} {dd_Ring : Option Addr} {m0_Ring m1_Ring m2_Ring m3_Ring m5_Ring : Option Value}
    {f_Ringi : Addr} {od_Ringi an_Ringi : Option Addr} {sl_Ringi : Array (Option Value)} {oc_Ringi kv_Ringi dc_Ringi pm_Ringi cd_Ringi ct_Ringi : Value}
    {f_names_of : Addr} {od_names_of an_names_of : Option Addr} {sl_names_of : Array (Option Value)} {oc_names_of kv_names_of dc_names_of pm_names_of cd_names_of ct_names_of : Value}
    {f_wish_against : Addr} {od_wish_against an_wish_against : Option Addr} {sl_wish_against : Array (Option Value)} {oc_wish_against kv_wish_against dc_wish_against pm_wish_against cd_wish_against ct_wish_against : Value}
    {f_ring_among : Addr} {od_ring_among an_ring_among : Option Addr} {sl_ring_among : Array (Option Value)} {oc_ring_among kv_ring_among dc_ring_among pm_ring_among cd_ring_among ct_ring_among : Value}
    {f_merged : Addr} {od_merged an_merged : Option Addr} {sl_merged : Array (Option Value)} {oc_merged kv_merged dc_merged pm_merged cd_merged ct_merged : Value}
    {f__law_pot : Addr} {od__law_pot an__law_pot : Option Addr} {sl__law_pot : Array (Option Value)} {oc__law_pot kv__law_pot dc__law_pot pm__law_pot cd__law_pot ct__law_pot : Value}
    {f__law_digit : Addr} {od__law_digit an__law_digit : Option Addr} {sl__law_digit : Array (Option Value)} {oc__law_digit kv__law_digit dc__law_digit pm__law_digit cd__law_digit ct__law_digit : Value}
    {f__law_names : Addr} {od__law_names an__law_names : Option Addr} {sl__law_names : Array (Option Value)} {oc__law_names kv__law_names dc__law_names pm__law_names cd__law_names ct__law_names : Value}
    {f__law_shuffled : Addr} {od__law_shuffled an__law_shuffled : Option Addr} {sl__law_shuffled : Array (Option Value)} {oc__law_shuffled kv__law_shuffled dc__law_shuffled pm__law_shuffled cd__law_shuffled ct__law_shuffled : Value}
    {f__law_rows : Addr} {od__law_rows an__law_rows : Option Addr} {sl__law_rows : Array (Option Value)} {oc__law_rows kv__law_rows dc__law_rows pm__law_rows cd__law_rows ct__law_rows : Value}
    {f__law_told : Addr} {od__law_told an__law_told : Option Addr} {sl__law_told : Array (Option Value)} {oc__law_told kv__law_told dc__law_told pm__law_told cd__law_told ct__law_told : Value}
    {f__law_is_behind : Addr} {od__law_is_behind an__law_is_behind : Option Addr} {sl__law_is_behind : Array (Option Value)} {oc__law_is_behind kv__law_is_behind dc__law_is_behind pm__law_is_behind cd__law_is_behind ct__law_is_behind : Value}
    {f__law_first : Addr} {od__law_first an__law_first : Option Addr} {sl__law_first : Array (Option Value)} {oc__law_first kv__law_first dc__law_first pm__law_first cd__law_first ct__law_first : Value}
    {f__law_due : Addr} {od__law_due an__law_due : Option Addr} {sl__law_due : Array (Option Value)} {oc__law_due kv__law_due dc__law_due pm__law_due cd__law_due ct__law_due : Value}
    {f__law_renamed : Addr} {od__law_renamed an__law_renamed : Option Addr} {sl__law_renamed : Array (Option Value)} {oc__law_renamed kv__law_renamed dc__law_renamed pm__law_renamed cd__law_renamed ct__law_renamed : Value}
    {f__law_other_names : Addr} {od__law_other_names an__law_other_names : Option Addr} {sl__law_other_names : Array (Option Value)} {oc__law_other_names kv__law_other_names dc__law_other_names pm__law_other_names cd__law_other_names ct__law_other_names : Value}
    {f_law : Addr} {od_law an_law : Option Addr} {sl_law : Array (Option Value)} {oc_law kv_law dc_law pm_law cd_law ct_law : Value}
    (n_LineError : PySem.W.nsIn K mainGlobals "LineError" = some (some (.ref C_LineError)))
    (n_Ring : PySem.W.nsIn K mainGlobals "Ring" = some (some (.ref C_Ring)))
    (s_LineError : PySem.W.subIn K (.ref C_LineError) (.type "BaseException") = some true)
    (t_LineError : PySem.W.typeIn K (.ref C_LineError) = some (.type "type"))
    (kc_LineError : PySem.W.keepIn K (.ref C_LineError) = true)
    (s_Ring : PySem.W.subIn K (.ref C_Ring) (.type "BaseException") = some true)
    (t_Ring : PySem.W.typeIn K (.ref C_Ring) = some (.type "type"))
    (kc_Ring : PySem.W.keepIn K (.ref C_Ring) = true)
    (xl_Ring : K.lookup C_Ring = some (excClassObj nm_Ring q_Ring C_Ring N_Ring bs_Ring bm_Ring true sn_Ring sub_Ring ab_Ring col_Ring dd_Ring m0_Ring m1_Ring m2_Ring m3_Ring m5_Ring "ValueError.__new__"))
    (xr_Ring : PySem.HandSPX.refsVE bm_Ring = true)
    (sa_Ring : PySem.W.findIn K (.ref C_Ring) "__setattr__" = some (some (.builtin "object.__setattr__")))
    (ga_Ring : PySem.W.findIn K (.ref C_Ring) "__getattribute__" = some (some (.builtin "BaseException.__getattribute__")))
    (gg_Ring : PySem.W.findIn K (.ref C_Ring) "__getattr__" = some none)
    (hd_Ring : PySem.W.hasDictIn K C_Ring = true)
    (nf_Ring_kind : PySem.W.findIn K (.ref C_Ring) "kind" = some none)
    (nf_Ring_ring : PySem.W.findIn K (.ref C_Ring) "ring" = some none)
    (a_Ringi : PySem.W.findIn K (.ref C_Ring) "__init__" = some (some (.ref f_Ringi)))
    (l_Ringi : K.lookup f_Ringi = some ⟨oc_Ringi, od_Ringi, .func (PySem.W.fnOf "__init__" "Ring.__init__" (defArgs (inClass (topS 2) 0)) (defBody (inClass (topS 2) 0)) (defScope (inClass (topS 2) 0)) .none kv_Ringi dc_Ringi pm_Ringi an_Ringi cd_Ringi ct_Ringi), sl_Ringi⟩)
    (c_Ringi : PySem.W.codeIn K cd_Ringi "Ring.__init__" = true)
    (k_Ringi : PySem.W.keepIn K (.ref f_Ringi) = true)
    (ty_Ringi : PySem.W.typeIn K (.ref f_Ringi) = some (.type "function"))
    (rd_LE : PySem.W.readsIn K C_LineError (.type "type") = true)
    (sp_LE : PySem.W.specialIn K (.ref C_LineError) "__getattribute__" = some (some (.builtin "type.__getattribute__")))
    (fc_LE : PySem.W.findCls K (.ref C_LineError) (.type "type") "__init__" = some (.val (.builtin "ValueError.__init__")))
    (ic_Ring : PySem.W.isClsIn K C_Ring = true)
    (sc_LineError_Ring : PySem.W.subIn K (.ref C_LineError) (.ref C_Ring) = some false)
    (sc_Ring_Ring : PySem.W.subIn K (.ref C_Ring) (.ref C_Ring) = some true)
    (a_names_of : PySem.W.nsIn K mainGlobals "names_of" = some (some (.ref f_names_of)))
    (l_names_of : K.lookup f_names_of = some ⟨oc_names_of, od_names_of, .func (PySem.W.fnOf "names_of" "names_of" (defArgs s_names_of) (defBody s_names_of) (defScope s_names_of) .none kv_names_of dc_names_of pm_names_of an_names_of cd_names_of ct_names_of), sl_names_of⟩)
    (c_names_of : PySem.W.codeIn K cd_names_of "names_of" = true)
    (k_names_of : PySem.W.keepIn K (.ref f_names_of) = true)
    (a_wish_against : PySem.W.nsIn K mainGlobals "wish_against" = some (some (.ref f_wish_against)))
    (l_wish_against : K.lookup f_wish_against = some ⟨oc_wish_against, od_wish_against, .func (PySem.W.fnOf "wish_against" "wish_against" (defArgs s_wish_against) (defBody s_wish_against) (defScope s_wish_against) .none kv_wish_against dc_wish_against pm_wish_against an_wish_against cd_wish_against ct_wish_against), sl_wish_against⟩)
    (c_wish_against : PySem.W.codeIn K cd_wish_against "wish_against" = true)
    (k_wish_against : PySem.W.keepIn K (.ref f_wish_against) = true)
    (a_ring_among : PySem.W.nsIn K mainGlobals "ring_among" = some (some (.ref f_ring_among)))
    (l_ring_among : K.lookup f_ring_among = some ⟨oc_ring_among, od_ring_among, .func (PySem.W.fnOf "ring_among" "ring_among" (defArgs s_ring_among) (defBody s_ring_among) (defScope s_ring_among) .none kv_ring_among dc_ring_among pm_ring_among an_ring_among cd_ring_among ct_ring_among), sl_ring_among⟩)
    (c_ring_among : PySem.W.codeIn K cd_ring_among "ring_among" = true)
    (k_ring_among : PySem.W.keepIn K (.ref f_ring_among) = true)
    (a_merged : PySem.W.nsIn K mainGlobals "merged" = some (some (.ref f_merged)))
    (l_merged : K.lookup f_merged = some ⟨oc_merged, od_merged, .func (PySem.W.fnOf "merged" "merged" (defArgs s_merged) (defBody s_merged) (defScope s_merged) .none kv_merged dc_merged pm_merged an_merged cd_merged ct_merged), sl_merged⟩)
    (c_merged : PySem.W.codeIn K cd_merged "merged" = true)
    (k_merged : PySem.W.keepIn K (.ref f_merged) = true)
    (a__law_pot : PySem.W.nsIn K mainGlobals "_law_pot" = some (some (.ref f__law_pot)))
    (l__law_pot : K.lookup f__law_pot = some ⟨oc__law_pot, od__law_pot, .func (PySem.W.fnOf "_law_pot" "_law_pot" (defArgs s__law_pot) (defBody s__law_pot) (defScope s__law_pot) .none kv__law_pot dc__law_pot pm__law_pot an__law_pot cd__law_pot ct__law_pot), sl__law_pot⟩)
    (c__law_pot : PySem.W.codeIn K cd__law_pot "_law_pot" = true)
    (k__law_pot : PySem.W.keepIn K (.ref f__law_pot) = true)
    (a__law_digit : PySem.W.nsIn K mainGlobals "_law_digit" = some (some (.ref f__law_digit)))
    (l__law_digit : K.lookup f__law_digit = some ⟨oc__law_digit, od__law_digit, .func (PySem.W.fnOf "_law_digit" "_law_digit" (defArgs s__law_digit) (defBody s__law_digit) (defScope s__law_digit) .none kv__law_digit dc__law_digit pm__law_digit an__law_digit cd__law_digit ct__law_digit), sl__law_digit⟩)
    (c__law_digit : PySem.W.codeIn K cd__law_digit "_law_digit" = true)
    (k__law_digit : PySem.W.keepIn K (.ref f__law_digit) = true)
    (a__law_names : PySem.W.nsIn K mainGlobals "_law_names" = some (some (.ref f__law_names)))
    (l__law_names : K.lookup f__law_names = some ⟨oc__law_names, od__law_names, .func (PySem.W.fnOf "_law_names" "_law_names" (defArgs s__law_names) (defBody s__law_names) (defScope s__law_names) .none kv__law_names dc__law_names pm__law_names an__law_names cd__law_names ct__law_names), sl__law_names⟩)
    (c__law_names : PySem.W.codeIn K cd__law_names "_law_names" = true)
    (k__law_names : PySem.W.keepIn K (.ref f__law_names) = true)
    (a__law_shuffled : PySem.W.nsIn K mainGlobals "_law_shuffled" = some (some (.ref f__law_shuffled)))
    (l__law_shuffled : K.lookup f__law_shuffled = some ⟨oc__law_shuffled, od__law_shuffled, .func (PySem.W.fnOf "_law_shuffled" "_law_shuffled" (defArgs s__law_shuffled) (defBody s__law_shuffled) (defScope s__law_shuffled) .none kv__law_shuffled dc__law_shuffled pm__law_shuffled an__law_shuffled cd__law_shuffled ct__law_shuffled), sl__law_shuffled⟩)
    (c__law_shuffled : PySem.W.codeIn K cd__law_shuffled "_law_shuffled" = true)
    (k__law_shuffled : PySem.W.keepIn K (.ref f__law_shuffled) = true)
    (a__law_rows : PySem.W.nsIn K mainGlobals "_law_rows" = some (some (.ref f__law_rows)))
    (l__law_rows : K.lookup f__law_rows = some ⟨oc__law_rows, od__law_rows, .func (PySem.W.fnOf "_law_rows" "_law_rows" (defArgs s__law_rows) (defBody s__law_rows) (defScope s__law_rows) .none kv__law_rows dc__law_rows pm__law_rows an__law_rows cd__law_rows ct__law_rows), sl__law_rows⟩)
    (c__law_rows : PySem.W.codeIn K cd__law_rows "_law_rows" = true)
    (k__law_rows : PySem.W.keepIn K (.ref f__law_rows) = true)
    (a__law_told : PySem.W.nsIn K mainGlobals "_law_told" = some (some (.ref f__law_told)))
    (l__law_told : K.lookup f__law_told = some ⟨oc__law_told, od__law_told, .func (PySem.W.fnOf "_law_told" "_law_told" (defArgs s__law_told) (defBody s__law_told) (defScope s__law_told) .none kv__law_told dc__law_told pm__law_told an__law_told cd__law_told ct__law_told), sl__law_told⟩)
    (c__law_told : PySem.W.codeIn K cd__law_told "_law_told" = true)
    (k__law_told : PySem.W.keepIn K (.ref f__law_told) = true)
    (a__law_is_behind : PySem.W.nsIn K mainGlobals "_law_is_behind" = some (some (.ref f__law_is_behind)))
    (l__law_is_behind : K.lookup f__law_is_behind = some ⟨oc__law_is_behind, od__law_is_behind, .func (PySem.W.fnOf "_law_is_behind" "_law_is_behind" (defArgs s__law_is_behind) (defBody s__law_is_behind) (defScope s__law_is_behind) .none kv__law_is_behind dc__law_is_behind pm__law_is_behind an__law_is_behind cd__law_is_behind ct__law_is_behind), sl__law_is_behind⟩)
    (c__law_is_behind : PySem.W.codeIn K cd__law_is_behind "_law_is_behind" = true)
    (k__law_is_behind : PySem.W.keepIn K (.ref f__law_is_behind) = true)
    (a__law_first : PySem.W.nsIn K mainGlobals "_law_first" = some (some (.ref f__law_first)))
    (l__law_first : K.lookup f__law_first = some ⟨oc__law_first, od__law_first, .func (PySem.W.fnOf "_law_first" "_law_first" (defArgs s__law_first) (defBody s__law_first) (defScope s__law_first) .none kv__law_first dc__law_first pm__law_first an__law_first cd__law_first ct__law_first), sl__law_first⟩)
    (c__law_first : PySem.W.codeIn K cd__law_first "_law_first" = true)
    (k__law_first : PySem.W.keepIn K (.ref f__law_first) = true)
    (a__law_due : PySem.W.nsIn K mainGlobals "_law_due" = some (some (.ref f__law_due)))
    (l__law_due : K.lookup f__law_due = some ⟨oc__law_due, od__law_due, .func (PySem.W.fnOf "_law_due" "_law_due" (defArgs s__law_due) (defBody s__law_due) (defScope s__law_due) .none kv__law_due dc__law_due pm__law_due an__law_due cd__law_due ct__law_due), sl__law_due⟩)
    (c__law_due : PySem.W.codeIn K cd__law_due "_law_due" = true)
    (k__law_due : PySem.W.keepIn K (.ref f__law_due) = true)
    (a__law_renamed : PySem.W.nsIn K mainGlobals "_law_renamed" = some (some (.ref f__law_renamed)))
    (l__law_renamed : K.lookup f__law_renamed = some ⟨oc__law_renamed, od__law_renamed, .func (PySem.W.fnOf "_law_renamed" "_law_renamed" (defArgs s__law_renamed) (defBody s__law_renamed) (defScope s__law_renamed) .none kv__law_renamed dc__law_renamed pm__law_renamed an__law_renamed cd__law_renamed ct__law_renamed), sl__law_renamed⟩)
    (c__law_renamed : PySem.W.codeIn K cd__law_renamed "_law_renamed" = true)
    (k__law_renamed : PySem.W.keepIn K (.ref f__law_renamed) = true)
    (a__law_other_names : PySem.W.nsIn K mainGlobals "_law_other_names" = some (some (.ref f__law_other_names)))
    (l__law_other_names : K.lookup f__law_other_names = some ⟨oc__law_other_names, od__law_other_names, .func (PySem.W.fnOf "_law_other_names" "_law_other_names" (defArgs s__law_other_names) (defBody s__law_other_names) (defScope s__law_other_names) .none kv__law_other_names dc__law_other_names pm__law_other_names an__law_other_names cd__law_other_names ct__law_other_names), sl__law_other_names⟩)
    (c__law_other_names : PySem.W.codeIn K cd__law_other_names "_law_other_names" = true)
    (k__law_other_names : PySem.W.keepIn K (.ref f__law_other_names) = true)
    (a_law : PySem.W.nsIn K mainGlobals "law" = some (some (.ref f_law)))
    (l_law : K.lookup f_law = some ⟨oc_law, od_law, .func (PySem.W.fnOf "law" "law" (defArgs s_law) (defBody s_law) (defScope s_law) .none kv_law dc_law pm_law an_law cd_law ct_law), sl_law⟩)
    (c_law : PySem.W.codeIn K cd_law "law" = true)
    (k_law : PySem.W.keepIn K (.ref f_law) = true)
    (b_len : PySem.W.nsIn K mainGlobals "len" = some none)
    (b_abs : PySem.W.nsIn K mainGlobals "abs" = some none)
    (b_max : PySem.W.nsIn K mainGlobals "max" = some none)
    (b_min : PySem.W.nsIn K mainGlobals "min" = some none)
    (b_tuple : PySem.W.nsIn K mainGlobals "tuple" = some none)
    (b_list : PySem.W.nsIn K mainGlobals "list" = some none)
    (b_all : PySem.W.nsIn K mainGlobals "all" = some none)
    (b_any : PySem.W.nsIn K mainGlobals "any" = some none)
    (b_sorted : PySem.W.nsIn K mainGlobals "sorted" = some none)
    (b_set : PySem.W.nsIn K mainGlobals "set" = some none)
    (b_isinstance : PySem.W.nsIn K mainGlobals "isinstance" = some none)
    (b_range : PySem.W.nsIn K mainGlobals "range" = some none)
    (b_enumerate : PySem.W.nsIn K mainGlobals "enumerate" = some none)
    (b_zip : PySem.W.nsIn K mainGlobals "zip" = some none)
    (b_int : PySem.W.nsIn K mainGlobals "int" = some none)
    (b_str : PySem.W.nsIn K mainGlobals "str" = some none)
    (b_bool : PySem.W.nsIn K mainGlobals "bool" = some none)
    (b_dict : PySem.W.nsIn K mainGlobals "dict" = some none)
    (b_repr : PySem.W.nsIn K mainGlobals "repr" = some none)
    (b_sum : PySem.W.nsIn K mainGlobals "sum" = some none)
    (b_type : PySem.W.nsIn K mainGlobals "type" = some none)
    (b_reversed : PySem.W.nsIn K mainGlobals "reversed" = some none)
    (hlaw : ∀ (ns : List Int), ns.length ≤ 63 → ∀ (R : DK) (xe : Exn → Oh → Prop), (∀ O', R (.d (.bool true)) O') → w_law [.d (.dict [(.none, .list (ns.map PyData.int))])] [] R xe) :
    ∃ fd : FuncData, (∀ (s : Shared) (v : Value), BindsTo s fd ⟨[v], []⟩ [("_law_script", v)]) ∧ ∀ base : Heap, K.In base → base.Ns mainGlobals mg → FnOkG l.prog w K mg base (LM.CX true l.prog w) 5 fa fd ["_law_script"] (spLaw K) := by
  have e := hfa.symm.trans (PySem.W.mg_of X G a_law)
  cases e
  have nb : NB mg := ⟨PySem.W.mg_none_of X G b_len, PySem.W.mg_none_of X G b_abs, PySem.W.mg_none_of X G b_max, PySem.W.mg_none_of X G b_min, PySem.W.mg_none_of X G b_tuple, PySem.W.mg_none_of X G b_list, PySem.W.mg_none_of X G b_all, PySem.W.mg_none_of X G b_any, PySem.W.mg_none_of X G b_sorted, PySem.W.mg_none_of X G b_set, PySem.W.mg_none_of X G b_isinstance, PySem.W.mg_none_of X G b_range, PySem.W.mg_none_of X G b_enumerate, PySem.W.mg_none_of X G b_zip, PySem.W.mg_none_of X G b_int, PySem.W.mg_none_of X G b_str, PySem.W.mg_none_of X G b_bool, PySem.W.mg_none_of X G b_dict, PySem.W.mg_none_of X G b_repr, PySem.W.mg_none_of X G b_sum, PySem.W.mg_none_of X G b_type, PySem.W.mg_none_of X G b_reversed⟩
  have B : BaseC K mg "LineError" := ⟨_, _, PySem.W.mg_of X G n_LineError, ⟨rd_LE, sp_LE⟩, fc_LE⟩
  have S_Ring : SubC K mg "Ring" [("LineError", false), ("Ring", true)] := ⟨_, PySem.W.mg_of X G n_Ring, (subs_cons s_Ring ic_Ring t_Ring (PySem.W.mg_of X G n_LineError) sc_LineError_Ring (subs_cons s_Ring ic_Ring t_Ring (PySem.W.mg_of X G n_Ring) sc_Ring_Ring subs_nil))⟩
  have F_names_of := fun_mk (st := s_names_of) l_names_of c_names_of k_names_of
  have B_names_of := F_names_of.binds (ps := ["rows"]) fun _ _ _ _ _ _ us hl => match us, hl with | [_], _ => rfl
  have F_wish_against := fun_mk (st := s_wish_against) l_wish_against c_wish_against k_wish_against
  have B_wish_against := F_wish_against.binds (ps := ["rows", "left", "name"]) fun _ _ _ _ _ _ us hl => match us, hl with | [_, _, _], _ => rfl
  have F_ring_among := fun_mk (st := s_ring_among) l_ring_among c_ring_among k_ring_among
  have B_ring_among := F_ring_among.binds (ps := ["rows", "left"]) fun _ _ _ _ _ _ us hl => match us, hl with | [_, _], _ => rfl
  have F_merged := fun_mk (st := s_merged) l_merged c_merged k_merged
  have B_merged := F_merged.binds (ps := ["rows"]) fun _ _ _ _ _ _ us hl => match us, hl with | [_], _ => rfl
  have F__law_pot := fun_mk (st := s__law_pot) l__law_pot c__law_pot k__law_pot
  have B__law_pot := F__law_pot.binds (ps := ["_law_script", "_law_k"]) fun _ _ _ _ _ _ us hl => match us, hl with | [_, _], _ => rfl
  have F__law_digit := fun_mk (st := s__law_digit) l__law_digit c__law_digit k__law_digit
  have B__law_digit := F__law_digit.binds (ps := ["_law_pot_here", "_law_many"]) fun _ _ _ _ _ _ us hl => match us, hl with | [_, _], _ => rfl
  have F__law_names := fun_mk (st := s__law_names) l__law_names c__law_names k__law_names
  have B__law_names := F__law_names.binds (ps := ["_law_pot_here", "_law_many"]) fun _ _ _ _ _ _ us hl => match us, hl with | [_, _], _ => rfl
  have F__law_shuffled := fun_mk (st := s__law_shuffled) l__law_shuffled c__law_shuffled k__law_shuffled
  have B__law_shuffled := F__law_shuffled.binds (ps := ["_law_pot_here", "_law_names_here"]) fun _ _ _ _ _ _ us hl => match us, hl with | [_, _], _ => rfl
  have F__law_rows := fun_mk (st := s__law_rows) l__law_rows c__law_rows k__law_rows
  have B__law_rows := F__law_rows.binds (ps := ["_law_pot_here", "_law_most_names", "_law_most_rows"]) fun _ _ _ _ _ _ us hl => match us, hl with | [_, _, _], _ => rfl
  have F__law_told := fun_mk (st := s__law_told) l__law_told c__law_told k__law_told
  have B__law_told := F__law_told.binds (ps := ["_law_rows_here"]) fun _ _ _ _ _ _ us hl => match us, hl with | [_], _ => rfl
  have F__law_is_behind := fun_mk (st := s__law_is_behind) l__law_is_behind c__law_is_behind k__law_is_behind
  have B__law_is_behind := F__law_is_behind.binds (ps := ["_law_rows_here", "_law_left", "_law_name"]) fun _ _ _ _ _ _ us hl => match us, hl with | [_, _, _], _ => rfl
  have F__law_first := fun_mk (st := s__law_first) l__law_first c__law_first k__law_first
  have B__law_first := F__law_first.binds (ps := ["_law_rows_here", "_law_left"]) fun _ _ _ _ _ _ us hl => match us, hl with | [_, _], _ => rfl
  have F__law_due := fun_mk (st := s__law_due) l__law_due c__law_due k__law_due
  have B__law_due := F__law_due.binds (ps := ["_law_rows_here"]) fun _ _ _ _ _ _ us hl => match us, hl with | [_], _ => rfl
  have F__law_renamed := fun_mk (st := s__law_renamed) l__law_renamed c__law_renamed k__law_renamed
  have B__law_renamed := F__law_renamed.binds (ps := ["_law_rows_here", "_law_named"]) fun _ _ _ _ _ _ us hl => match us, hl with | [_, _], _ => rfl
  have F__law_other_names := fun_mk (st := s__law_other_names) l__law_other_names c__law_other_names k__law_other_names
  have B__law_other_names := F__law_other_names.binds (ps := ["_law_pot_here", "_law_rows_here"]) fun _ _ _ _ _ _ us hl => match us, hl with | [_, _], _ => rfl
  have F_law := fun_mk (st := s_law) l_law c_law k_law
  have B_law := F_law.binds (ps := ["_law_script"]) fun _ _ _ _ _ _ us hl => match us, hl with | [_], _ => rfl
  refine ⟨PySem.W.fnOf "law" "law" (defArgs s_law) (defBody s_law) (defScope s_law) .none kv_law dc_law pm_law an_law cd_law ct_law, fun s v => .of_eq rfl, fun base hK hG => ?_⟩
  have F_Ringi := fun_mk (st := s_Ringi) l_Ringi c_Ringi k_Ringi
  have B_Ringi := F_Ringi.binds (ps := ["self", "kind", "ring"]) fun _ _ _ _ _ _ us hl => match us, hl with | [_, _, _], _ => rfl
  have X_Ring : XCF l.prog w K mg base "Ring" ["kind", "ring"] := ⟨C_Ring, f_Ringi, _, _, PySem.W.mg_of X G n_Ring, ⟨⟨nm_Ring, q_Ring, N_Ring, bs_Ring, bm_Ring, sn_Ring, sub_Ring, ab_Ring, col_Ring, dd_Ring, m0_Ring, m1_Ring, m2_Ring, m3_Ring, m5_Ring, xl_Ring, xr_Ring⟩, sa_Ring, s_Ring, t_Ring, kc_Ring⟩, a_Ringi, ty_Ringi, ok_Ringi F_Ringi B, B_Ringi, ⟨ga_Ring, gg_Ring, s_Ring, hd_Ring⟩, (all_cons nf_Ring_kind (all_cons nf_Ring_ring (all_nil)))⟩
  have T_names_of : Has l.prog w K mg base "names_of" ["rows"] 1 w_names_of := ⟨_, _, ok_names_of F_names_of nb, PySem.W.mg_of X G a_names_of, k_names_of, B_names_of⟩
  have T_wish_against : Has l.prog w K mg base "wish_against" ["rows", "left", "name"] 1 w_wish_against := ⟨_, _, ok_wish_against F_wish_against nb, PySem.W.mg_of X G a_wish_against, k_wish_against, B_wish_against⟩
  have T_ring_among : Has l.prog w K mg base "ring_among" ["rows", "left"] 2 w_ring_among := ⟨_, _, ok_ring_among F_ring_among nb T_wish_against, PySem.W.mg_of X G a_ring_among, k_ring_among, B_ring_among⟩
  have T_merged : Has l.prog w K mg base "merged" ["rows"] 3 w_merged := ⟨_, _, ok_merged F_merged nb T_names_of T_ring_among T_wish_against X_Ring, PySem.W.mg_of X G a_merged, k_merged, B_merged⟩
  have T__law_pot : Has l.prog w K mg base "_law_pot" ["_law_script", "_law_k"] 1 w__law_pot := ⟨_, _, ok__law_pot F__law_pot nb, PySem.W.mg_of X G a__law_pot, k__law_pot, B__law_pot⟩
  have T__law_digit : Has l.prog w K mg base "_law_digit" ["_law_pot_here", "_law_many"] 1 w__law_digit := ⟨_, _, ok__law_digit F__law_digit nb, PySem.W.mg_of X G a__law_digit, k__law_digit, B__law_digit⟩
  have T__law_names : Has l.prog w K mg base "_law_names" ["_law_pot_here", "_law_many"] 2 w__law_names := ⟨_, _, ok__law_names F__law_names nb T__law_digit, PySem.W.mg_of X G a__law_names, k__law_names, B__law_names⟩
  have T__law_shuffled : Has l.prog w K mg base "_law_shuffled" ["_law_pot_here", "_law_names_here"] 2 w__law_shuffled := ⟨_, _, ok__law_shuffled F__law_shuffled nb T__law_digit, PySem.W.mg_of X G a__law_shuffled, k__law_shuffled, B__law_shuffled⟩
  have T__law_rows : Has l.prog w K mg base "_law_rows" ["_law_pot_here", "_law_most_names", "_law_most_rows"] 3 w__law_rows := ⟨_, _, ok__law_rows F__law_rows nb T__law_digit T__law_names T__law_shuffled, PySem.W.mg_of X G a__law_rows, k__law_rows, B__law_rows⟩
  have T__law_told : Has l.prog w K mg base "_law_told" ["_law_rows_here"] 4 w__law_told := ⟨_, _, ok__law_told F__law_told nb T_merged X_Ring S_Ring, PySem.W.mg_of X G a__law_told, k__law_told, B__law_told⟩
  have T__law_is_behind : Has l.prog w K mg base "_law_is_behind" ["_law_rows_here", "_law_left", "_law_name"] 1 w__law_is_behind := ⟨_, _, ok__law_is_behind F__law_is_behind nb, PySem.W.mg_of X G a__law_is_behind, k__law_is_behind, B__law_is_behind⟩
  have T__law_first : Has l.prog w K mg base "_law_first" ["_law_rows_here", "_law_left"] 2 w__law_first := ⟨_, _, ok__law_first F__law_first nb T__law_is_behind, PySem.W.mg_of X G a__law_first, k__law_first, B__law_first⟩
  have T__law_due : Has l.prog w K mg base "_law_due" ["_law_rows_here"] 3 w__law_due := ⟨_, _, ok__law_due F__law_due nb T__law_first, PySem.W.mg_of X G a__law_due, k__law_due, B__law_due⟩
  have T__law_renamed : Has l.prog w K mg base "_law_renamed" ["_law_rows_here", "_law_named"] 1 w__law_renamed := ⟨_, _, ok__law_renamed F__law_renamed nb, PySem.W.mg_of X G a__law_renamed, k__law_renamed, B__law_renamed⟩
  have T__law_other_names : Has l.prog w K mg base "_law_other_names" ["_law_pot_here", "_law_rows_here"] 3 w__law_other_names := ⟨_, _, ok__law_other_names F__law_other_names nb T__law_names T__law_shuffled, PySem.W.mg_of X G a__law_other_names, k__law_other_names, B__law_other_names⟩
  exact (ok_law (P := l.prog) (w := w) (base := base) F_law nb T__law_digit T__law_due T__law_other_names T__law_pot T__law_renamed T__law_rows T__law_told).imp fun vs H Q E h => law_in hlaw h
theorem walk {l : PySem.W.OpenLaw} {q : Program} {loose : List Str} {XP : (Str → Option Value) → Heap → Prop} {YP : World → Heap → Prop} {d : DefRec} {K : Params → Fg} (hn : l.most = some 63) (hdf : d.params.defaults = [])
    (hY : ∀ (w : World) (h : Heap), YP w h → (K w.params).In h)
    (F : ∀ (w : World) (mg : Str → Option Value) (fa : Addr) (h : Heap), (K w.params).In h → h.Ns mainGlobals mg → mg d.name = some (.ref fa) →
      ∃ fd : FuncData, (∀ (s : Shared) (u : Value), BindsTo s fd ⟨[u], []⟩ [("_law_script", u)]) ∧ ∀ base : Heap, (K w.params).In base → base.Ns mainGlobals mg → FnOkG l.prog w (K w.params) mg base (LM.CX true l.prog w) 5 fa fd ["_law_script"] (spLaw (K w.params))) :
    PySem.W.WalkO q loose XP YP l.row.toRowW d [] (fun f vs => PySem.call f vs) :=
  walk_ofG (n := 63) (k := 5) (x := "_law_script") (CX := fun w => LM.CX true l.prog w) (sp := fun w => spLaw (K w.params)) hn (by decide) hdf ⟨rfl, by decide, by decide⟩ hY F (fun _ _ a ns hl _ hS => ⟨a, ns, rfl, hS, hl, fun _ => rfl⟩) fun _ _ _ _ _ z => no_cx z
end Dl
open PySem PySem.W PyProof.Rows
set_option maxRecDepth 100000 in
set_option maxHeartbeats 0 in
theorem PySem.Challenge.cw_parentlines_k13_whole_told_row_says_noth_holds : PySem.Challenge.rw_parentlines_k13_whole_told_row_says_noth.Holds := by
  w_on; o_law; k_head; (case hw => w_witness2)
  k_fill
  refine Dl.walk (l := PySem.Challenge.rw_parentlines_k13_whole_told_row_says_noth) rfl rfl (fun w h Y => PySem.W.kIn_of Y) ?F
  case F =>
    intro w mg fa h KX G hmg
    refine' Dl.all_mk KX G hmg ?n_LineError ?n_Ring ?s_LineError ?t_LineError ?kc_LineError ?s_Ring ?t_Ring ?kc_Ring ?xl_Ring ?xr_Ring ?sa_Ring ?ga_Ring ?gg_Ring ?hd_Ring ?nf_Ring_kind ?nf_Ring_ring ?a_Ringi ?l_Ringi ?c_Ringi ?k_Ringi ?ty_Ringi ?rd_LE ?sp_LE ?fc_LE ?ic_Ring ?sc_LineError_Ring ?sc_Ring_Ring ?a_names_of ?l_names_of ?c_names_of ?k_names_of ?a_wish_against ?l_wish_against ?c_wish_against ?k_wish_against ?a_ring_among ?l_ring_among ?c_ring_among ?k_ring_among ?a_merged ?l_merged ?c_merged ?k_merged ?a__law_pot ?l__law_pot ?c__law_pot ?k__law_pot ?a__law_digit ?l__law_digit ?c__law_digit ?k__law_digit ?a__law_names ?l__law_names ?c__law_names ?k__law_names ?a__law_shuffled ?l__law_shuffled ?c__law_shuffled ?k__law_shuffled ?a__law_rows ?l__law_rows ?c__law_rows ?k__law_rows ?a__law_told ?l__law_told ?c__law_told ?k__law_told ?a__law_is_behind ?l__law_is_behind ?c__law_is_behind ?k__law_is_behind ?a__law_first ?l__law_first ?c__law_first ?k__law_first ?a__law_due ?l__law_due ?c__law_due ?k__law_due ?a__law_renamed ?l__law_renamed ?c__law_renamed ?k__law_renamed ?a__law_other_names ?l__law_other_names ?c__law_other_names ?k__law_other_names ?a_law ?l_law ?c_law ?k_law ?b_len ?b_abs ?b_max ?b_min ?b_tuple ?b_list ?b_all ?b_any ?b_sorted ?b_set ?b_isinstance ?b_range ?b_enumerate ?b_zip ?b_int ?b_str ?b_bool ?b_dict ?b_repr ?b_sum ?b_type ?b_reversed Dl.law_true
    (case n_LineError => k_is)
    (case n_Ring => k_is)
    (case s_LineError => k_is)
    (case t_LineError => k_is)
    (case kc_LineError => k_is)
    (case s_Ring => k_is)
    (case t_Ring => k_is)
    (case kc_Ring => k_is)
    (case xl_Ring => k_is)
    (case xr_Ring => first | rfl | decide +kernel)
    (case sa_Ring => k_is)
    (case ga_Ring => k_is)
    (case gg_Ring => k_is)
    (case hd_Ring => k_is)
    (case nf_Ring_kind => k_is)
    (case nf_Ring_ring => k_is)
    (case a_Ringi => k_is)
    (case l_Ringi => k_is)
    (case c_Ringi => k_is)
    (case k_Ringi => k_is)
    (case ty_Ringi => k_is)
    (case rd_LE => k_is)
    (case sp_LE => k_is)
    (case fc_LE => k_is)
    (case ic_Ring => k_is)
    (case sc_LineError_Ring => k_is)
    (case sc_Ring_Ring => k_is)
    (case a_names_of => k_is)
    (case l_names_of => k_is)
    (case c_names_of => k_is)
    (case k_names_of => k_is)
    (case a_wish_against => k_is)
    (case l_wish_against => k_is)
    (case c_wish_against => k_is)
    (case k_wish_against => k_is)
    (case a_ring_among => k_is)
    (case l_ring_among => k_is)
    (case c_ring_among => k_is)
    (case k_ring_among => k_is)
    (case a_merged => k_is)
    (case l_merged => k_is)
    (case c_merged => k_is)
    (case k_merged => k_is)
    (case a__law_pot => k_is)
    (case l__law_pot => k_is)
    (case c__law_pot => k_is)
    (case k__law_pot => k_is)
    (case a__law_digit => k_is)
    (case l__law_digit => k_is)
    (case c__law_digit => k_is)
    (case k__law_digit => k_is)
    (case a__law_names => k_is)
    (case l__law_names => k_is)
    (case c__law_names => k_is)
    (case k__law_names => k_is)
    (case a__law_shuffled => k_is)
    (case l__law_shuffled => k_is)
    (case c__law_shuffled => k_is)
    (case k__law_shuffled => k_is)
    (case a__law_rows => k_is)
    (case l__law_rows => k_is)
    (case c__law_rows => k_is)
    (case k__law_rows => k_is)
    (case a__law_told => k_is)
    (case l__law_told => k_is)
    (case c__law_told => k_is)
    (case k__law_told => k_is)
    (case a__law_is_behind => k_is)
    (case l__law_is_behind => k_is)
    (case c__law_is_behind => k_is)
    (case k__law_is_behind => k_is)
    (case a__law_first => k_is)
    (case l__law_first => k_is)
    (case c__law_first => k_is)
    (case k__law_first => k_is)
    (case a__law_due => k_is)
    (case l__law_due => k_is)
    (case c__law_due => k_is)
    (case k__law_due => k_is)
    (case a__law_renamed => k_is)
    (case l__law_renamed => k_is)
    (case c__law_renamed => k_is)
    (case k__law_renamed => k_is)
    (case a__law_other_names => k_is)
    (case l__law_other_names => k_is)
    (case c__law_other_names => k_is)
    (case k__law_other_names => k_is)
    (case a_law => k_is)
    (case l_law => k_is)
    (case c_law => k_is)
    (case k_law => k_is)
    (case b_len => k_is)
    (case b_abs => k_is)
    (case b_max => k_is)
    (case b_min => k_is)
    (case b_tuple => k_is)
    (case b_list => k_is)
    (case b_all => k_is)
    (case b_any => k_is)
    (case b_sorted => k_is)
    (case b_set => k_is)
    (case b_isinstance => k_is)
    (case b_range => k_is)
    (case b_enumerate => k_is)
    (case b_zip => k_is)
    (case b_int => k_is)
    (case b_str => k_is)
    (case b_bool => k_is)
    (case b_dict => k_is)
    (case b_repr => k_is)
    (case b_sum => k_is)
    (case b_type => k_is)
    (case b_reversed => k_is)
