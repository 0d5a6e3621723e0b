import PyProof.Rows.All
import Wide.All
import OpenK.AllK
import Wide.FinOn
import HandS.ForMost
import HandS.ForExc
import HandS.Wide
import HandS.CallSlots
import HandS.ExcCtx
import HandS.SuiteRaise
import HandS.Lambda
import HandS.TupAny
import HandS.Strs
import HandS.Style
import HandS.IsInst
import HandS.Deep
import PyProof.Rows.SetFrom
import HandS.SetFor
import HandS.More
import HandS.Zip
import HandS.Conv
import KE.DataFind
import HandS.SetKeys
import HandS.RaiseOp
import HandS.Small
import HandS.NoneIn
import KE.SortData
import KE.DataMinMax
import HandS.Walk
import KE.GoesEnum
import KE.OsSortAny
import HandS.ExcInit
import HandS.ExcField
import HandS.ClsMeth
import HandS.IterVal
import KE.KDictZip
import HandS.TryElse
import HandS.Finally
import HandS.DictTup
import HandS.Defaults
import HandS.RaiseFrom
import HandS.ExcInitHot
import KE.KAsSuite
import HandS.Text
import HandS.ExcIs
import KE.KExcIs
import KE.KDictPairs
import HandS.TryOnly
import HandS.Iter
import HandS.TupLen
import KE.KEqDict
import KE.GoesZip
import KE.GoesMore
import KE.KDictItemsList
import PyProof.ReprReads
import KE.SortKeyHeap
import HandS.EndTab
import KE.KTryMore
import PySem.Challenge.RW_parentlines_k15_refusals_made
set_option Elab.async false
set_option linter.all false
set_option maxRecDepth 100000
set_option maxHeartbeats 4000000
set_option maxHeartbeats 8000000
/-! ### exceptions whose context is None, or one whose context is None -/
namespace LM
open PySem PySem.Spec PyProof.Rows L2
abbrev St := L2.St
/-- the context, as it stands -/
abbrev Ctx := Option (Addr × Obj)
def cv : Ctx → Value
  | none => .none
  | some p => .ref p.1
def Zm (cls : Value) (d : Option Addr) (c : Ctx) : Obj → Prop := fun o => o.cls = cls ∧ o.dict = d ∧ ∀ vs : Array Value, o.data = .fields vs → vs[2]? = some (cv c)
theorem steady_cv {c : Ctx} : PXN.Steady1 (fun o => ∀ vs : Array Value, o.data = .fields vs → vs[2]? = some (cv c)) := fun o v h => by
  obtain ⟨k, d, dt, sl⟩ := o
  cases dt with
  | fields vs0 =>
    intro vs e
    have e2 : vs0.setIfInBounds 1 v = vs := Data.fields.inj e
    have e3 : (vs0.setIfInBounds 1 v)[2]? = vs0[2]? := by
      first
      | exact Array.getElem?_setIfInBounds_ne (by decide)
      | simp [Array.getElem?_setIfInBounds]
    rw [← e2, e3]
    exact h vs0 rfl
  | _ =>
    intro vs e
    first
    | exact Data.noConfusion e
    | cases e
theorem Zm.steady {cls : Value} {d : Option Addr} {c : Ctx} : PXN.Steady1 (Zm cls d c) := fun o v h => ⟨PXN.steady_cls o v h.1, PXN.steady_dict o v h.2.1, steady_cv o v h.2.2⟩
/-- F: whether there may be a context at all -/
def CtxOk (F : Bool) (B : Heap) (H : Hp) (c : Ctx) : Prop := ∀ p, c = some p → F = true ∧ B.get? p.1 = some p.2 ∧ H p.1 = none ∧ ∃ vy : Array Value, p.2.data = .fields vy ∧ vy[2]? = some .none
theorem ctx_none {F : Bool} {B : Heap} {H : Hp} : CtxOk F B H none := fun _ e => nomatch e
theorem CtxOk.imp {F : Bool} {B : Heap} {H : Hp} {c : Ctx} (h : CtxOk F B H c) : CtxOk true B H c := fun p e => ⟨rfl, (h p e).2⟩
def XE (F : Bool) (X : Cx) (W : WX) (u : Value) (s' : Shared) : Prop :=
  ∃ (a : Addr) (B : Heap) (sI : Shared) (pins : List (Addr × Obj)) (σ : St) (H : Hp) (cls : Value) (d : Option Addr) (c : Ctx),
    u = .ref a ∧ Inv X pins σ H sI ∧ (∀ b o, sI.heap.get? b = some o → b ∉ frs X.stack → B.get? b = some o) ∧ sI.heap.UpToSlots s'.heap ∧
      Sky B X.stack a (Zm cls d c) X.env.locals s'.heap ∧ H a = none ∧ s'.os = sI.os ∧ AllBare s'.gens ∧ CtxOk F B H c ∧ W cls d σ H
def Takes (F : Bool) (X : Cx) (W : WX) : Prop := ∀ u s', XE F X W u s' → X.xe u s'
theorem takesN {X : Cx} {W : WX} : L2N.Takes X W ↔ Takes false X W := by
  constructor
  · rintro t u s' ⟨a, B, sI, pins, σ, H, cls, d, c, e, I, nb, up, sky, na, os, ag, ck, w⟩
    cases c with
    | none => exact t u s' ⟨a, B, sI, pins, σ, H, cls, d, e, I, nb, up, sky, na, os, ag, w⟩
    | some p => exact Bool.noConfusion (ck p rfl).1
  · rintro t u s' ⟨a, B, sI, pins, σ, H, cls, d, e, I, nb, up, sky, na, os, ag, w⟩
    exact t u s' ⟨a, B, sI, pins, σ, H, cls, d, none, e, I, nb, up, sky, na, os, ag, ctx_none, w⟩
theorem tn_of {X : Cx} {W : WX} (t : Takes true X W) : L2N.Takes X W := takesN.mpr fun u s' ⟨a, B, sI, pins, σ, H, cls, d, c, e, I, nb, up, sky, na, os, ag, ck, w⟩ => t u s' ⟨a, B, sI, pins, σ, H, cls, d, c, e, I, nb, up, sky, na, os, ag, ck.imp, w⟩
def CX (F : Bool) (P : Program) (w : World) (outer : List Env) (H : Hp) (s : Shared) (E : XK) (u : Value) (s' : Shared) : Prop :=
  ∃ (a : Addr) (B : Heap) (H' : Hp) (cls : Value) (d : Option Addr) (c : Ctx), u = .ref a ∧ HandSPX.FlyingZ B outer a (Zm cls d c) s'.heap ∧ HOk P w H' B ∧ UB (frs outer) H H' s.heap B s'.heap ∧ H' a = none ∧ s'.os = s.os ∧ AllBare s'.gens ∧ CtxOk F B H' c ∧ E cls d H'
section
variable {F : Bool} {X : Cx} {pins : List (Addr × Obj)} {σ : St} {H : Hp} {sI s s' : Shared} {B : Heap} {W : WX} {E : XK}
/-- a new exception is in our air -/
theorem XE.new {a : Addr} {oe : Obj} {vs : Array Value} {cls : Value} {d : Option Addr} {c : Ctx} (I : Inv X pins σ H sI) (k : ∀ b o, sI.heap.get? b = some o → s'.heap.get? b = some o) (hne : sI.heap.get? a = none) (he : s'.heap.get? a = some oe)
    (hz : Zm cls d c oe) (hd : oe.data = .fields vs) (h1 : vs[1]? = some .none) (na : H a = none) (os : s'.os = sI.os) (ag : AllBare s'.gens) (ck : ∀ p, c = some p → F = true ∧ sI.heap.get? p.1 = some p.2 ∧ p.1 ∉ frs X.stack ∧ H p.1 = none ∧ ∃ vy : Array Value, p.2.data = .fields vy ∧ vy[2]? = some .none) (w : W cls d σ H) : XE F X W (.ref a) s' := by
  refine ⟨a, PySem.W.hideAll sI.heap (frs X.stack), sI, pins, σ, H, cls, d, c, rfl, I, fun b o e hb => PySem.W.hideAll_get _ e hb, Heap.UpToSlots.of_keeps k,
    .inl ⟨fun b o e => k b o (PySem.W.of_hideAll _ e), ?_, ?_, oe, vs, he, hz, hd, h1⟩, na, os, ag, fun p e => ?_, w⟩
  · cases q : (PySem.W.hideAll sI.heap (frs X.stack)).get? a with
    | none => rfl
    | some o =>
      have z := PySem.W.of_hideAll _ q
      rw [hne] at z; cases z
  · exact Heap.FunFrames.of_keeps (fun b o e _ => ⟨o, k b o e, rfl⟩) (funFrames_none I.stack fun b hb => PySem.W.hideAll_none _ hb)
  · obtain ⟨h1, h2, h3, h4, h5⟩ := ck p e
    exact ⟨h1, PySem.W.hideAll_get _ h2 h3, h4, h5⟩
/-- it leaves the def -/
theorem XE.leave (hs : X.stack = X.env :: X.outer) (hf : X.env.frame = some X.env.locals) (hex : X.ex = []) {E₁ : Value → Shared → Prop} (hW : ∀ cls d σ H, W cls d σ H → E cls d H) {u : Value} (x : XE F X W u s') :
    wpAny (model X.prog X.w) X.A (leaving X.env u) (fun _ s'' => CX F X.prog X.w X.outer X.H_0 X.s_0 E u s'') E₁ s' := by
  obtain ⟨a, B, sI, pins, σ, H, cls, d, c, rfl, I, nb, up, sky, na, os, ag, ck, w⟩ := x
  have hfr : X.A.frames = some (X.env :: X.outer) := by rw [I.ok.frames, hs]
  have nst : ∀ b o, X.s_0.heap.get? b = some o → b ∉ X.fs → b ∉ frs X.stack := fun b o e hb hm => by
    rcases List.mem_cons.mp (I.stkSub b hm) with z | z
    · have h1 := Heap.lt_size e
      have h2 := I.ok.above
      rw [z] at h1
      exact absurd (Nat.lt_of_lt_of_le h1 h2) (Nat.lt_irrefl _)
    · exact hb z
  have hex' : ∀ b, b ∉ X.ex := fun b hb => by rw [hex] at hb; cases hb
  have hokB := I.inGround nb
  have fin : ∀ h', HandSPX.FlyingZ B X.outer a (Zm cls d c) h' → s'.heap.UpToSlots h' → CX F X.prog X.w X.outer X.H_0 X.s_0 E (.ref a) { s' with heap := h' } := fun h' fl up' => by
    refine ⟨a, B, H, cls, d, c, rfl, fl, hokB, ⟨fun b o e n hb => nb b o (I.base.keep b o e n hb (hex' b)) (nst b o e hb), fun b o e hb => ?_, fun b o e n => I.base.free b o e n (hex' b), fun b o e hb => ?_, I.base.tups, I.base.frzs, I.base.tbls⟩,
      na, os.trans I.os, ag, ck, hW _ _ _ _ w⟩
    · obtain ⟨_, o₀, e₀, hnf⟩ := I.ok.funs.mem hb
      rw [e] at e₀; cases e₀
      obtain ⟨sl, e1⟩ := I.base.slot b o e (I.ok.frf b hb) hb (hex' b)
      obtain ⟨sl2, e2⟩ := up b _ e1 hnf
      obtain ⟨sl3, e3⟩ := up' b _ e2 hnf
      exact ⟨sl3, e3⟩
    · obtain ⟨o', e1⟩ := I.base.there b o e (hex' b)
      exact ⟨o', nb b o' e1 (nst b o e hb)⟩
  rw [hs] at sky
  rcases sky with ⟨hB, hn, hl, oe, vs, he, hz, hd, h1⟩ | fl | hd
  · exact PXN.leaving_firstZ Zm.steady hfr hl hf he hB hn hd h1 hz fin
  · exact PXN.leaves_onZ Zm.steady hfr hf fl fin
  · exact HandSPX.leaves_heldZ hf hd fin
theorem takes_of (hs : X.stack = X.env :: X.outer) (hf : X.env.frame = some X.env.locals) (hex : X.ex = []) {E₁ : Value → Shared → Prop}
    (hx : X.xe = fun e s' => wpAny (model X.prog X.w) X.A (leaving X.env e) (fun _ s'' => CX F X.prog X.w X.outer X.H_0 X.s_0 E e s'') E₁ s') : Takes F X (fun cls d _ H => E cls d H) := fun u s' x => by
  rw [hx]
  exact XE.leave (W := fun cls d _ H => E cls d H) (E := E) hs hf hex (fun _ _ _ _ h => h) x
end
/-- the head is the exception that is handled, behind it may stand its context -/
def HotL (A : Around) : List (Addr × Obj) → Prop
  | [] => False
  | q :: r => A.handled = some (.ref q.1) ∧ ∃ vs : Array Value, q.2.data = .fields vs ∧ (vs[2]? = some .none ∨ ∃ y ∈ r, vs[2]? = some (.ref y.1) ∧ ∃ vy : Array Value, y.2.data = .fields vy ∧ vy[2]? = some .none)
/-! #### try, clauses with or without names, else -/
end LM
/-! ### a layer of values over the hand layer: readings without addresses -/
namespace Dl
open PySem PySem.Spec PyProof.Rows L2
abbrev Fg := PySem.W.Frag
/-- the tables of code objects that change as the law runs (a def's that makes lambdas), and the name that each code object in it bears -/
class TabsC where
  T : List (Addr × Str)
variable [TabsC]
/-- data | a cell | a tuple that is a key of a dict | a pair that a walk hands out, of data, of a key and data | an exception that is handled, by its place -/
inductive W where
  | d (x : PyData)
  | c (k : Nat)
  | k (ks : List Key)
  | p (ds : List PyData)
  | q (ks : List Key) (x : PyData)
  | o (a : Addr) (d : Option Addr) (fs : List (Str × PyData))
  | t (xs : List (PyData ⊕ Nat))
  | e (i : Int) (ks : List Key)
/-- what stands in a tuple that holds cells -/
def tiW : PyData ⊕ Nat → W
  | .inl x => .d x
  | .inr k => .c k
inductive Cell where
  | lst (xs : List W)
  | dic (kvs : List (Key × W))
  | dct (kvs : List (List Key × W))
  | ldic (od : Obj) (es : List (Key × V)) (kvs : List (Key × W))
  | ldct (od : Obj) (es : List (List Key × V)) (kvs : List (List Key × W))
  | ins (C : Str) (fs : List (Str × W))
  | exn (C : Str) (fs : List (Str × PyData))
  | gone
abbrev Gm := List (Option W)
abbrev Oh := List Cell
structure Exn where
  cls : Str
  fs : List (Str × PyData)
abbrev DK := W → Oh → Prop
abbrev DX := Exn → Gm → Oh → Prop
abbrev DEx := Gm → Oh → DK → DX → Prop
abbrev DT := Gm → Oh → (Bool → Oh → Prop) → DX → Prop
abbrev DA := Gm → Oh → (List W → Oh → Prop) → DX → Prop
structure DEnds where
  nx : Gm → Oh → Prop
  rt : DK
  bk : Gm → Oh → Prop
  ct : Gm → Oh → Prop
abbrev DSt := DEnds → DX → Gm → Oh → Prop
abbrev DFn := List W → Oh → DK → (Exn → Oh → Prop) → Prop
/-! #### heaps that grow -/
def Ex (H H' : Hp) : Prop := ∀ a o, H a = some o → H' a = some o
theorem Ex.refl (H : Hp) : Ex H H := fun _ _ h => h
theorem Ex.trans {H H1 H2 : Hp} (a : Ex H H1) (b : Ex H1 H2) : Ex H H2 := fun x o h => b x o (a x o h)
theorem Ex.new {H : Hp} {p : Addr} {o : HO} (h : H p = none) : Ex H (upd H p o) := fun a u e => by
  rw [upd_ne (ne_of_none e h)]
  exact e
theorem Ex.free {H H' : Hp} {p : Addr} (e : Ex H H') (h : H' p = none) : H p = none := by
  cases h1 : H p with
  | none => rfl
  | some o => rw [e p o h1] at h; cases h
theorem Ex.rd {H H' : Hp} {a : Addr} {u : HO} (e : Ex H H') (h : Rd H a u) : Rd H' a u := by
  rcases h with h | ⟨o, h⟩
  · exact Or.inl (e a _ h)
  · exact Or.inr ⟨o, e a _ h⟩
theorem Ex.sqL {K : Fg} {H H' : Hp} {a : Addr} {xs : List V} (e : Ex H H') (h : SqL K H a xs) : SqL K H' a xs := h.imp e.rd id
theorem Ex.sqT {K : Fg} {H H' : Hp} {a : Addr} {xs : List V} (e : Ex H H') (h : SqT K H a xs) : SqT K H' a xs := h.imp e.rd id
/-! #### data that never changes -/
/-- the tuple at a has no dict of its own -/
def TD (K : Fg) (G : Hp) (a : Addr) : Prop := (∃ ob u, G a = some (.frz ob u) ∧ ob.dict = none) ∨ ∃ o, K.lookup a = some o ∧ o.dict = none
theorem TD.mono {K : Fg} {G G' : Hp} {a : Addr} (e : Ex G G') (h : TD K G a) : TD K G' a := h.imp (fun ⟨ob, u, h1, h2⟩ => ⟨ob, u, e _ _ h1, h2⟩) id
def keyD : Key → PyData
  | .inl i => .int i
  | .inr x => .str x
/-- texts of keys are texts -/
def keyOk : Key → Bool
  | .inl _ => true
  | .inr x => PyData.strOk x
mutual
inductive Rp (K : Fg) (G : Hp) : V → PyData → Prop
  | non : Rp K G .non .none
  | bl (b : Bool) : Rp K G (.bl b) (.bool b)
  | int (i : Int) : Rp K G (.int i) (.int i)
  | str (x : Str) : PyData.strOk x = true → Rp K G (.str x) (.str x)
  | lst {a : Addr} {xs : List V} {ds : List PyData} : G a = some (.lst xs) → RpL K G xs ds → Rp K G (.ref a) (.list ds)
  | tup {a : Addr} {xs : List V} {ds : List PyData} : SqT K G a xs → TD K G a → RpL K G xs ds → Rp K G (.ref a) (.tuple ds)
  | scr {a : Addr} (ns : List Int) : SqL K G a (ns.map V.int) → Rp K G (.ref a) (.dict [(.none, .list (ns.map PyData.int))])
  | dk {a : Addr} {ob : Obj} {es : List (Key × V)} {kvs : List (PyData × PyData)} : G a = some (.frz ob (.dK es)) → RpK K G es kvs → Rp K G (.ref a) (.dict kvs)
inductive RpL (K : Fg) (G : Hp) : List V → List PyData → Prop
  | nil : RpL K G [] []
  | cons {v : V} {vs : List V} {d : PyData} {ds : List PyData} : Rp K G v d → RpL K G vs ds → RpL K G (v :: vs) (d :: ds)
inductive RpK (K : Fg) (G : Hp) : List (Key × V) → List (PyData × PyData) → Prop
  | nil : RpK K G [] []
  | cons {k : Key} {v : V} {es : List (Key × V)} {q d : PyData} {kvs : List (PyData × PyData)} : q = keyD k → keyOk k = true → Rp K G v d → RpK K G es kvs → RpK K G ((k, v) :: es) ((q, d) :: kvs)
end
section
variable {K : Fg} {G G' : Hp}
mutual
theorem Rp.mono (e : Ex G G') : ∀ {d : PyData} {v : V}, Rp K G v d → Rp K G' v d
  | .none, _, h => by cases h; exact .non
  | .bool b, _, h => by cases h; exact .bl _
  | .int i, _, h => by cases h; exact .int _
  | .str x, _, h => by cases h with | str _ hx => exact .str _ hx
  | .list ds, _, h => by
    cases h with | lst hs ha => exact .lst (e _ _ hs) (RpL.mono e ha)
  | .tuple ds, _, h => by
    cases h with | tup hs td ha => exact .tup (e.sqT hs) (td.mono e) (RpL.mono e ha)
  | .dict kvs, _, h => by
    cases h with
    | scr ns h => exact .scr ns (e.sqL h)
    | dk hg hk => exact .dk (e _ _ hg) (RpK.mono e hk)
theorem RpL.mono (e : Ex G G') : ∀ {ds : List PyData} {vs : List V}, RpL K G vs ds → RpL K G' vs ds
  | [], _, h => by cases h; exact .nil
  | d :: ds, _, h => by
    cases h with | cons h1 h2 => exact .cons (Rp.mono e h1) (RpL.mono e h2)
theorem RpK.mono (e : Ex G G') : ∀ {kvs : List (PyData × PyData)} {es : List (Key × V)}, RpK K G es kvs → RpK K G' es kvs
  | [], _, h => by cases h; exact .nil
  | (q, d) :: kvs, _, h => by
    cases h with | cons h0 hk h1 h2 => exact .cons h0 hk (Rp.mono e h1) (RpK.mono e h2)
end
theorem RpL.length : ∀ {ds : List PyData} {vs : List V}, RpL K G vs ds → vs.length = ds.length
  | [], _, h => by cases h; rfl
  | d :: ds, _, h => by
    cases h with | cons h1 h2 => rw [List.length_cons, List.length_cons, RpL.length h2]
theorem RpL.get : ∀ {ds : List PyData} {vs : List V} {i : Nat} {d : PyData}, RpL K G vs ds → ds[i]? = some d → ∃ v, vs[i]? = some v ∧ Rp K G v d
  | [], _, _, _, _, e => by simp at e
  | d :: ds, _, 0, _, h, e => by
    cases h with
    | cons h1 h2 =>
      simp only [List.getElem?_cons_zero, Option.some.injEq] at e
      subst e
      exact ⟨_, rfl, h1⟩
  | d :: ds, _, i + 1, _, h, e => by
    cases h with
    | cons h1 h2 =>
      obtain ⟨v, q1, q2⟩ := RpL.get (i := i) h2 (by simpa using e)
      exact ⟨v, by simpa using q1, q2⟩
theorem RpL.append : ∀ {ds es : List PyData} {vs us : List V}, RpL K G vs ds → RpL K G us es → RpL K G (vs ++ us) (ds ++ es)
  | [], _, _, _, h, h' => by cases h; exact h'
  | d :: ds, _, _, _, h, h' => by
    cases h with | cons h1 h2 => exact .cons h1 (RpL.append h2 h')
theorem RpL.drop : ∀ {ds : List PyData} {vs : List V} (n : Nat), RpL K G vs ds → RpL K G (vs.drop n) (ds.drop n)
  | _, _, 0, h => h
  | [], _, n + 1, h => by cases h; exact .nil
  | d :: ds, _, n + 1, h => by
    cases h with | cons h1 h2 => exact RpL.drop n h2
theorem RpL.take : ∀ {ds : List PyData} {vs : List V} (n : Nat), RpL K G vs ds → RpL K G (vs.take n) (ds.take n)
  | _, _, 0, h => .nil
  | [], _, n + 1, h => by cases h; exact .nil
  | d :: ds, _, n + 1, h => by
    cases h with | cons h1 h2 => exact .cons h1 (RpL.take n h2)
theorem RpL.reverse : ∀ {ds : List PyData} {vs : List V}, RpL K G vs ds → RpL K G vs.reverse ds.reverse
  | [], _, h => by cases h; exact .nil
  | d :: ds, _, h => by
    cases h with
    | cons h1 h2 =>
      rw [List.reverse_cons, List.reverse_cons]
      exact (RpL.reverse h2).append (.cons h1 .nil)
theorem RpL.ints : ∀ (ns : List Int), RpL K G (ns.map V.int) (ns.map PyData.int)
  | [] => .nil
  | n :: r => .cons (.int n) (RpL.ints r)
/-! #### values -/
/-- the cells' addresses; what is hidden for a while, and stays -/
structure Al where
  as : List Addr
  hid : List (Addr × HO)
def Pre (α α' : Al) : Prop := α.as <+: α'.as ∧ α'.hid = α.hid
theorem Pre.refl (α : Al) : Pre α α := ⟨List.prefix_refl _, rfl⟩
theorem Pre.trans {α β γ : Al} (a : Pre α β) (b : Pre β γ) : Pre α γ := ⟨a.1.trans b.1, b.2.trans a.2⟩
def Al.push (α : Al) (p : Addr) : Al := ⟨α.as ++ [p], α.hid⟩
theorem Pre.push {α : Al} {p : Addr} : Pre α (α.push p) := ⟨List.prefix_append _ _, rfl⟩
def Al.cut (α : Al) (n : Nat) : Al := ⟨α.as.take n, α.hid⟩
theorem RpL.keys {K : Fg} {G : Hp} : ∀ {ks : List Key}, ks.all keyOk = true → RpL K G (ks.map kV) (ks.map keyD)
  | [], _ => .nil
  | .inl i :: r, h => by
    rw [List.all_cons, Bool.and_eq_true] at h
    exact .cons (.int i) (RpL.keys h.2)
  | .inr x :: r, h => by
    rw [List.all_cons, Bool.and_eq_true] at h
    exact .cons (.str x h.1) (RpL.keys h.2)
/-- an item of a tuple that holds cells -/
def Ri (K : Fg) (G : Hp) (α : Al) (v : V) : PyData ⊕ Nat → Prop
  | .inl x => Rp K G v x
  | .inr k => ∃ a, α.as[k]? = some a ∧ v = .ref a
def Rv (K : Fg) (G : Hp) (α : Al) (v : V) : W → Prop
  | .d x => Rp K G v x
  | .c k => ∃ a, α.as[k]? = some a ∧ v = .ref a
  | .k ks => ks.all keyOk = true ∧ ∃ a, v = .ref a ∧ G a = some (.tup (ks.map kV))
  | .p ds => ∃ a vs, v = .ref a ∧ SqT K G a vs ∧ RpL K G vs ds
  | .q ks x => ks.all keyOk = true ∧ ∃ a b u, v = .ref a ∧ SqT K G a [.ref b, u] ∧ G b = some (.tup (ks.map kV)) ∧ Rp K G u x
  | .o a d fs => v = .ref a ∧ (fs = [] → d = none) ∧ (fs ≠ [] → ∃ dd vs, d = some dd ∧ G dd = some (.xd vs) ∧ Paired (fun (p : Str × V) (q : Str × PyData) => p.1 = q.1 ∧ Rp K G p.2 q.2) vs fs)
  | .t xs => ∃ a vs, v = .ref a ∧ G a = some (.tup vs) ∧ Paired (Ri K G α) vs xs
  | .e i ks => ks.all keyOk = true ∧ ∃ a b, v = .ref a ∧ SqT K G a [.int i, .ref b] ∧ G b = some (.tup (ks.map kV))
abbrev RvL (K : Fg) (G : Hp) (α : Al) : List V → List W → Prop := Paired (Rv K G α)
variable {α α' : Al}
theorem fields_mono {K : Fg} {G G' : Hp} (e : Ex G G') : ∀ {vs : List (Str × V)} {fs : List (Str × PyData)}, Paired (fun (p : Str × V) (q : Str × PyData) => p.1 = q.1 ∧ Rp K G p.2 q.2) vs fs → Paired (fun (p : Str × V) (q : Str × PyData) => p.1 = q.1 ∧ Rp K G' p.2 q.2) vs fs
  | _, _, .nil => .nil
  | _, _, .cons h t => .cons ⟨h.1, h.2.mono e⟩ (fields_mono e t)
theorem pre_get {k : Nat} {a : Addr} (h : Pre α α') (e : α.as[k]? = some a) : α'.as[k]? = some a := by
  obtain ⟨⟨t, ht⟩, _⟩ := h
  rw [← ht, List.getElem?_append_left (List.getElem?_eq_some_iff.mp e).1]
  exact e
theorem RiL.mono (e : Ex G G') (p : Pre α α') : ∀ {vs : List V} {xs : List (PyData ⊕ Nat)}, Paired (Ri K G α) vs xs → Paired (Ri K G' α') vs xs
  | _, _, .nil => .nil
  | _, .inl x :: _, .cons h t => .cons (show Ri K G' α' _ (.inl x) from Rp.mono e h) (RiL.mono e p t)
  | _, .inr k :: _, .cons h t => .cons (show Ri K G' α' _ (.inr k) from by obtain ⟨a, h1, h2⟩ := h; exact ⟨a, pre_get p h1, h2⟩) (RiL.mono e p t)
theorem Rv.mono {v : V} {w : W} (e : Ex G G') (p : Pre α α') (h : Rv K G α v w) : Rv K G' α' v w := by
  cases w with
  | d x => exact Rp.mono e h
  | c k =>
    obtain ⟨a, h1, h2⟩ := h
    exact ⟨a, pre_get p h1, h2⟩
  | k ks =>
    obtain ⟨h0, a, h1, h2⟩ := h
    exact ⟨h0, a, h1, e _ _ h2⟩
  | p ds =>
    obtain ⟨a, vs, h1, h2, h3⟩ := h
    exact ⟨a, vs, h1, e.sqT h2, RpL.mono e h3⟩
  | q ks x =>
    obtain ⟨h0, a, b, u, h1, h2, h3, h4⟩ := h
    exact ⟨h0, a, b, u, h1, e.sqT h2, e _ _ h3, Rp.mono e h4⟩
  | o a d fs =>
    obtain ⟨h1, h0, h2⟩ := h
    refine ⟨h1, h0, fun z => ?_⟩
    obtain ⟨dd, vs, q1, q2, q3⟩ := h2 z
    exact ⟨dd, vs, q1, e _ _ q2, fields_mono e q3⟩
  | t xs =>
    obtain ⟨a, vs, h1, h2, h3⟩ := h
    exact ⟨a, vs, h1, e _ _ h2, RiL.mono e p h3⟩
  | e i ks =>
    obtain ⟨h0, a, b, h1, h2, h3⟩ := h
    exact ⟨h0, a, b, h1, e.sqT h2, e _ _ h3⟩
theorem RvL.mono (e : Ex G G') (p : Pre α α') : ∀ {vs : List V} {ws : List W}, RvL K G α vs ws → RvL K G' α' vs ws
  | _, _, .nil => .nil
  | _, _, .cons h t => .cons (h.mono e p) (RvL.mono e p t)
theorem RvL.ofD : ∀ {ds : List PyData} {vs : List V}, RpL K G vs ds → RvL K G α vs (ds.map W.d)
  | [], _, h => by cases h; exact .nil
  | d :: ds, _, h => by
    cases h with | cons h1 h2 => exact .cons h1 (RvL.ofD h2)
theorem RvL.toD : ∀ {ds : List PyData} {vs : List V}, RvL K G α vs (ds.map W.d) → RpL K G vs ds
  | [], _, h => by cases h; exact .nil
  | d :: ds, _, h => by
    cases h with | cons h1 h2 => exact .cons h1 (RvL.toD h2)
theorem RiL.rv : ∀ {vs : List V} {xs : List (PyData ⊕ Nat)}, Paired (Ri K G α) vs xs → RvL K G α vs (xs.map tiW)
  | _, _, .nil => .nil
  | _, .inl x :: _, .cons h t => .cons (show Rv K G α _ (.d x) from h) (RiL.rv t)
  | _, .inr k :: _, .cons h t => .cons (show Rv K G α _ (.c k) from h) (RiL.rv t)
theorem RvL.len {vs : List V} {ws : List W} (h : RvL K G α vs ws) : vs.length = ws.length := Paired.length h
theorem RvL.get : ∀ {vs : List V} {ws : List W} {i : Nat} {w : W}, RvL K G α vs ws → ws[i]? = some w → ∃ v, vs[i]? = some v ∧ Rv K G α v w
  | _, _, _, _, .nil, e => by simp at e
  | _, _, 0, _, .cons r _, e => by simp at e; subst e; exact ⟨_, rfl, r⟩
  | _, _, i + 1, x, .cons _ t, e => by
    obtain ⟨u, h1, h2⟩ := RvL.get (i := i) (w := x) t (by simpa using e)
    exact ⟨u, by simpa using h1, h2⟩
theorem RvL.append : ∀ {vs us : List V} {ws zs : List W}, RvL K G α vs ws → RvL K G α us zs → RvL K G α (vs ++ us) (ws ++ zs)
  | _, _, _, _, .nil, h => h
  | _, _, _, _, .cons r t, h => .cons r (RvL.append t h)
theorem RvL.set {v : V} {w : W} (h : Rv K G α v w) : ∀ {vs : List V} {ws : List W} (i : Nat), RvL K G α vs ws → RvL K G α (vs.set i v) (ws.set i w)
  | _, _, _, .nil => .nil
  | _, _, 0, .cons _ t => .cons h t
  | _, _, i + 1, .cons q t => .cons q (RvL.set h i t)
theorem RvL.drop : ∀ {vs : List V} {ws : List W} (n : Nat), RvL K G α vs ws → RvL K G α (vs.drop n) (ws.drop n)
  | _, _, 0, h => h
  | _, _, _ + 1, .nil => .nil
  | _, _, n + 1, .cons _ t => RvL.drop n t
theorem RvL.take : ∀ {vs : List V} {ws : List W} (n : Nat), RvL K G α vs ws → RvL K G α (vs.take n) (ws.take n)
  | _, _, 0, h => .nil
  | _, _, _ + 1, .nil => .nil
  | _, _, n + 1, .cons r t => .cons r (RvL.take n t)
/-! #### cells: what changes -/
def RK (K : Fg) (G : Hp) (α : Al) {κ : Type} : List (κ × V) → List (κ × W) → Prop := Paired fun (p : κ × V) (q : κ × W) => p.1 = q.1 ∧ Rv K G α p.2 q.2
theorem RK.mono {κ : Type} (e : Ex G G') (p : Pre α α') : ∀ {vs : List (κ × V)} {ws : List (κ × W)}, RK K G α vs ws → RK K G' α' vs ws
  | _, _, .nil => .nil
  | _, _, .cons h t => .cons ⟨h.1, h.2.mono e p⟩ (RK.mono e p t)
/-- an exception that was made, and stands as a value -/
def exv (a C : Addr) (d : Option Addr) : HO := .ext fun h => ∃ oe vs, h.get? a = some oe ∧ oe.cls = .ref C ∧ oe.dict = d ∧ oe.data = .fields vs
def XfOk (K : Fg) (G : Hp) (d : Option Addr) (fs : List (Str × PyData)) : Prop := (fs = [] → d = none) ∧ (fs ≠ [] → ∃ dd vs, d = some dd ∧ G dd = some (.xd vs) ∧ Paired (fun (p : Str × V) (q : Str × PyData) => p.1 = q.1 ∧ Rp K G p.2 q.2) vs fs)
theorem XfOk.mono {K : Fg} {G G' : Hp} {d : Option Addr} {fs : List (Str × PyData)} (e : Ex G G') (h : XfOk K G d fs) : XfOk K G' d fs := ⟨h.1, fun z => by
  obtain ⟨dd, vs, q1, q2, q3⟩ := h.2 z
  exact ⟨dd, vs, q1, e _ _ q2, fields_mono e q3⟩⟩
def COk (K : Fg) (mg : Str → Option Value) (G : Hp) (α : Al) (H : Hp) (a : Addr) : Cell → Prop
  | .lst xs => G a = none ∧ ∃ vs, H a = some (.lst vs) ∧ RvL K G α vs xs
  | .dic kvs => G a = none ∧ ∃ es, H a = some (.dK es) ∧ RK K G α es kvs
  | .dct kvs => G a = none ∧ ∃ es, H a = some (.dT es) ∧ RK K G α es kvs
  | .ldic od es kvs => G a = none ∧ H a = some (.frz od (.dK es)) ∧ RK K G α es kvs
  | .ldct od es kvs => G a = none ∧ H a = some (.frz od (.dT es)) ∧ RK K G α es kvs
  | .ins C fs => G a = none ∧ ∃ Ca dx es, mg C = some (.ref Ca) ∧ H a = some (.ins Ca dx es) ∧ H dx = some (.own a) ∧ G dx = none ∧ dx ∉ α.as ∧ RK K G α es fs
  | .exn C fs => G a = none ∧ ∃ Ca d, mg C = some (.ref Ca) ∧ H a = some (exv a Ca d) ∧ XfOk K G d fs
  | .gone => True
/-- no dict of an instance, no tuple -/
def NoOT (o : HO) : Prop := (∀ b, o ≠ .own b) ∧ ∀ xs, o ≠ .tup xs
/-- neither a cell nor hidden -/
def Off (α : Al) (b : Addr) : Prop := b ∉ α.as ∧ ∀ q ∈ α.hid, q.1 ≠ b
def TabK (G : Hp) (α : Al) (H : Hp) (P : Addr) (q : Str) : Prop := G P = none ∧ Off α P ∧ ∃ ps : Array Value, H P = some (.tbl ps) ∧ TriplesOk ps.toList ∧ ∀ (pos : Pos) (cv : Value), codeAmong pos ps.toList = some cv → ∃ c, cv = .ref c ∧ H c = some (LamX.CodeO c q) ∧ Off α c
def Tb (G : Hp) (α : Al) (H : Hp) : Prop := ∀ p ∈ TabsC.T, TabK G α H p.1 p.2
/-- a table, or a code object in it -/
def Tt (u : HO) : Prop := (∃ ps, u = .tbl ps) ∨ ∃ c q, u = LamX.CodeO c q
theorem Tt.lst {vs : List V} (h : Tt (.lst vs)) : False := h.elim (fun ⟨_, z⟩ => by cases z) fun ⟨_, _, z⟩ => by cases z
theorem Tt.tup {vs : List V} (h : Tt (.tup vs)) : False := h.elim (fun ⟨_, z⟩ => by cases z) fun ⟨_, _, z⟩ => by cases z
theorem Tt.frz {ob : Obj} {u : HO} (h : Tt (.frz ob u)) : False := h.elim (fun ⟨_, z⟩ => by cases z) fun ⟨_, _, z⟩ => by cases z
theorem Tb.mono {G G' : Hp} {α α' : Al} {H H' : Hp} (t : Tb G α H) (hG : ∀ b u, H b = some u → Tt u → Off α b → G b = none → G' b = none) (hH : ∀ b u, H b = some u → Tt u → Off α b → H' b = some u) (ho : ∀ b u, H b = some u → Tt u → Off α b → Off α' b) : Tb G' α' H' := fun p hp => by
  obtain ⟨g, o, ps, h1, h2, h3⟩ := t p hp
  have t1 : Tt (.tbl ps) := .inl ⟨_, rfl⟩
  refine ⟨hG _ _ h1 t1 o g, ho _ _ h1 t1 o, ps, hH _ _ h1 t1 o, h2, fun pos cv hc => ?_⟩
  obtain ⟨c, e, h4, h5⟩ := h3 pos cv hc
  exact ⟨c, e, hH _ _ h4 (.inr ⟨_, _, rfl⟩) h5, ho _ _ h4 (.inr ⟨_, _, rfl⟩) h5⟩
theorem Off.ne {α : Al} {a b : Addr} {k : Nat} (o : Off α b) (h1 : α.as[k]? = some a) : b ≠ a := fun z => o.1 (by rw [z]; exact List.mem_of_getElem? h1)
structure Rel (K : Fg) (mg : Str → Option Value) (G : Hp) (α : Al) (O : Oh) (H : Hp) : Prop where
  ex : Ex G H
  len : α.as.length = O.length
  nd : α.as.Nodup
  liv : ∀ a ∈ α.as, ∃ o, H a = some o
  at_ : ∀ (k : Nat) (a : Addr) (c : Cell), α.as[k]? = some a → O[k]? = some c → COk K mg G α H a c
  hd : ∀ p ∈ α.hid, H p.1 = some p.2 ∧ G p.1 = none ∧ p.1 ∉ α.as ∧ NoOT p.2
  tb : Tb G α H
structure Sl (K : Fg) (G : Hp) (α : Al) (Γ : Gm) (σ : L2.St) : Prop where
  len : Γ.length = σ.length
  at_ : ∀ (i : Nat) (w : W), Γ[i]? = some (some w) → ∃ v, σ[i]? = some (some v) ∧ Rv K G α v w
theorem Sl.mono {Γ : Gm} {σ : L2.St} (e : Ex G G') (p : Pre α α') (h : Sl K G α Γ σ) : Sl K G' α' Γ σ := ⟨h.len, fun i w q => by
  obtain ⟨v, h1, h2⟩ := h.at_ i w q
  exact ⟨v, h1, h2.mono e p⟩⟩
theorem Sl.set {Γ : Gm} {σ : L2.St} {v : V} {w : W} (h : Sl K G α Γ σ) (r : Rv K G α v w) (i : Nat) : Sl K G α (Γ.set i (some w)) (σ.set i (some v)) := ⟨by rw [List.length_set, List.length_set, h.len], fun j x q => by
  by_cases e : i = j
  · subst e
    by_cases hl : i < Γ.length
    · rw [List.getElem?_set_self hl] at q
      cases q
      refine ⟨v, ?_, r⟩
      rw [List.getElem?_set_self (by rw [← h.len]; exact hl)]
    · rw [List.set_eq_of_length_le (by omega)] at q
      have := (List.getElem?_eq_some_iff.mp q).1
      omega
  · rw [List.getElem?_set_ne e] at q
    obtain ⟨u, h1, h2⟩ := h.at_ j x q
    exact ⟨u, by rw [List.getElem?_set_ne e]; exact h1, h2⟩⟩
theorem Sl.forget {Γ : Gm} {σ : L2.St} (h : Sl K G α Γ σ) (i : Nat) (o : Option V) : Sl K G α (Γ.set i none) (σ.set i o) := ⟨by rw [List.length_set, List.length_set, h.len], fun j x q => by
  by_cases e : i = j
  · subst e
    by_cases hl : i < Γ.length
    · rw [List.getElem?_set_self hl] at q
      cases q
    · rw [List.set_eq_of_length_le (by omega)] at q
      have := (List.getElem?_eq_some_iff.mp q).1
      omega
  · rw [List.getElem?_set_ne e] at q
    obtain ⟨u, h1, h2⟩ := h.at_ j x q
    exact ⟨u, by rw [List.getElem?_set_ne e]; exact h1, h2⟩⟩
variable {mg : Str → Option Value} {O O' : Oh} {H H' : Hp}
theorem COk.mono {a : Addr} {c : Cell} (e : Ex G G') (p : Pre α α') (hn : G a = none → G' a = none) (hd : ∀ b, H b = some (.own a) → G b = none → b ∉ α.as → G' b = none ∧ b ∉ α'.as ∧ H' b = some (.own a)) (hH : ∀ o, H a = some o → H' a = some o)
    (h : COk K mg G α H a c) : COk K mg G' α' H' a c := by
  cases c with
  | lst xs =>
    obtain ⟨h0, vs, h1, h2⟩ := h
    exact ⟨hn h0, vs, hH _ h1, h2.mono e p⟩
  | dic kvs =>
    obtain ⟨h0, vs, h1, h2⟩ := h
    exact ⟨hn h0, vs, hH _ h1, h2.mono e p⟩
  | dct kvs =>
    obtain ⟨h0, vs, h1, h2⟩ := h
    exact ⟨hn h0, vs, hH _ h1, h2.mono e p⟩
  | ldic od es kvs =>
    obtain ⟨h0, h1, h2⟩ := h
    exact ⟨hn h0, hH _ h1, h2.mono e p⟩
  | ldct od es kvs =>
    obtain ⟨h0, h1, h2⟩ := h
    exact ⟨hn h0, hH _ h1, h2.mono e p⟩
  | ins C fs =>
    obtain ⟨h0, Ca, dx, es, h1, h2, h3, h4, h5, h6⟩ := h
    obtain ⟨q1, q2, q3⟩ := hd dx h3 h4 h5
    exact ⟨hn h0, Ca, dx, es, h1, hH _ h2, q3, q1, q2, h6.mono e p⟩
  | exn C fs =>
    obtain ⟨h0, Ca, d, h1, h2, h3⟩ := h
    exact ⟨hn h0, Ca, d, h1, hH _ h2, h3.mono e⟩
  | gone => trivial
/-- a new thing that never changes -/
theorem Rel.lay {p : Addr} {o : HO} (R : Rel K mg G α O H) (hp : H p = none) : Rel K mg (upd G p o) α O (upd H p o) := by
  have gp : G p = none := R.ex.free hp
  refine ⟨fun a u e => ?_, R.len, R.nd, fun a ha => ?_, fun k a c h1 h2 => ?_, fun q hq => ?_, R.tb.mono (fun b u h _ _ g => by rw [upd_ne (ne_of_none h hp)]; exact g) (fun b u h _ _ => by rw [upd_ne (ne_of_none h hp)]; exact h) (fun _ _ _ _ o => o)⟩
  · by_cases z : a = p
    · subst z
      rw [upd_same] at e ⊢
      exact e
    · rw [upd_ne z] at e ⊢
      exact R.ex a u e
  · obtain ⟨u, e⟩ := R.liv a ha
    exact ⟨u, by rw [upd_ne (ne_of_none e hp)]; exact e⟩
  · obtain ⟨u, e⟩ := R.liv a (List.mem_of_getElem? h1)
    have ne : a ≠ p := ne_of_none e hp
    refine (R.at_ k a c h1 h2).mono (Ex.new gp) (Pre.refl _) (fun z => by rw [upd_ne ne]; exact z) (fun b hb z1 z2 => ?_) fun u z => by rw [upd_ne ne]; exact z
    have nb : b ≠ p := ne_of_none hb hp
    exact ⟨by rw [upd_ne nb]; exact z1, z2, by rw [upd_ne nb]; exact hb⟩
  · obtain ⟨q1, q2, q3, q4⟩ := R.hd q hq
    have nq : q.1 ≠ p := ne_of_none q1 hp
    exact ⟨by rw [upd_ne nq]; exact q1, by rw [upd_ne nq]; exact q2, q3, q4⟩
/-- a new cell -/
theorem Rel.cell {p : Addr} {o : HO} {c : Cell} (R : Rel K mg G α O H) (hp : H p = none) (hno : ∀ b, o ≠ .own b)
    (hc : COk K mg G (α.push p) (upd H p o) p c) : Rel K mg G (α.push p) (O ++ [c]) (upd H p o) := by
  have gp : G p = none := R.ex.free hp
  have np : p ∉ α.as := fun z => by
    obtain ⟨u, e⟩ := R.liv p z
    rw [hp] at e
    cases e
  refine ⟨fun a u e => ?_, ?_, ?_, fun a ha => ?_, fun k a c' h1 h2 => ?_, fun q hq => ?_, R.tb.mono (fun _ _ _ _ _ g => g) (fun b u h _ _ => by rw [upd_ne (ne_of_none h hp)]; exact h) (fun b u h _ o => ⟨fun z => (List.mem_append.mp z).elim o.1 (fun z => ne_of_none h hp (by simpa using z)), o.2⟩)⟩
  · rw [upd_ne (ne_of_none e gp)]
    exact R.ex a u e
  · show (α.as ++ [p]).length = _
    rw [List.length_append, List.length_append, R.len]
    rfl
  · show (α.as ++ [p]).Nodup
    rw [List.nodup_append]
    refine ⟨R.nd, by simp, fun a ha b hb z => ?_⟩
    have : b = p := by simpa using hb
    subst this
    subst z
    exact np ha
  · rcases List.mem_append.mp ha with z | z
    · obtain ⟨u, e⟩ := R.liv a z
      exact ⟨u, by rw [upd_ne (ne_of_none e hp)]; exact e⟩
    · have : a = p := by simpa using z
      subst this
      exact ⟨o, upd_same⟩
  · have h1 : (α.as ++ [p])[k]? = some a := h1
    by_cases hk : k < α.as.length
    · rw [List.getElem?_append_left hk] at h1
      rw [List.getElem?_append_left (by rw [← R.len]; exact hk)] at h2
      obtain ⟨u, e⟩ := R.liv a (List.mem_of_getElem? h1)
      have ne : a ≠ p := ne_of_none e hp
      refine (R.at_ k a c' h1 h2).mono (Ex.refl _) (Pre.push) id (fun b hb z1 z2 => ?_) fun u z => by rw [upd_ne ne]; exact z
      have nb : b ≠ p := ne_of_none hb hp
      refine ⟨z1, fun z => ?_, by rw [upd_ne nb]; exact hb⟩
      rcases List.mem_append.mp z with z | z
      · exact z2 z
      · exact nb (by simpa using z)
    · have hk2 : k = α.as.length := by
        have := (List.getElem?_eq_some_iff.mp h1).1
        rw [List.length_append] at this
        simp at this
        omega
      subst hk2
      rw [List.getElem?_append_right (Nat.le_refl _), Nat.sub_self] at h1
      rw [List.getElem?_append_right (by rw [R.len]; exact Nat.le_refl _), R.len, Nat.sub_self] at h2
      cases h1
      cases h2
      exact hc
  · obtain ⟨q1, q2, q3, q4⟩ := R.hd q hq
    have nq : q.1 ≠ p := ne_of_none q1 hp
    refine ⟨by rw [upd_ne nq]; exact q1, q2, fun z => ?_, q4⟩
    rcases List.mem_append.mp z with z | z
    · exact q3 z
    · exact nq (by simpa using z)
theorem nodup_ne {α : List Addr} (nd : α.Nodup) {i j : Nat} {a b : Addr} (h1 : α[i]? = some a) (h2 : α[j]? = some b) (h : i ≠ j) : a ≠ b := fun e => by
  subst e
  obtain ⟨l1, e1⟩ := List.getElem?_eq_some_iff.mp h1
  obtain ⟨l2, e2⟩ := List.getElem?_eq_some_iff.mp h2
  exact h ((List.getElem_inj nd).mp (e1.trans e2.symm))
/-- a cell is written (not an instance's) -/
theorem Rel.write {k : Nat} {a : Addr} {o u : HO} {c c0 : Cell} (R : Rel K mg G α O H) (h1 : α.as[k]? = some a) (h2 : O[k]? = some c0) (h3 : H a = some u) (h4 : G a = none) (hu : ∀ b, u ≠ .own b) (hno : ∀ b, o ≠ .own b)
    (hc : COk K mg G α (upd H a o) a c) : Rel K mg G α (O.set k c) (upd H a o) := by
  refine ⟨fun b v e => ?_, by rw [List.length_set]; exact R.len, R.nd, fun b hb => ?_, fun j b c' q1 q2 => ?_, fun q hq => ?_, R.tb.mono (fun _ _ _ _ _ g => g) (fun b u h _ o => by rw [upd_ne (o.ne h1)]; exact h) (fun _ _ _ _ o => o)⟩
  · rw [upd_ne (ne_of_none e h4)]
    exact R.ex b v e
  · by_cases z : b = a
    · subst z
      exact ⟨o, upd_same⟩
    · obtain ⟨v, e⟩ := R.liv b hb
      exact ⟨v, by rw [upd_ne z]; exact e⟩
  · by_cases z : k = j
    · subst z
      rw [h1] at q1
      cases q1
      rw [List.getElem?_set_self (List.getElem?_eq_some_iff.mp h2).1] at q2
      cases q2
      exact hc
    · rw [List.getElem?_set_ne z] at q2
      have ne : b ≠ a := nodup_ne R.nd q1 h1 (Ne.symm z)
      refine (R.at_ j b c' q1 q2).mono (Ex.refl _) (Pre.refl _) id (fun x hx z1 z2 => ⟨z1, z2, ?_⟩) fun v z => by rw [upd_ne ne]; exact z
      have nx : x ≠ a := fun e => by
        rw [e, h3] at hx
        exact hu b (Option.some.inj hx)
      rw [upd_ne nx]
      exact hx
  · obtain ⟨q1, q2, q3, q4⟩ := R.hd q hq
    have nq : q.1 ≠ a := fun z => q3 (z ▸ List.mem_of_getElem? h1)
    exact ⟨by rw [upd_ne nq]; exact q1, q2, q3, q4⟩
/-- a list that will never change again -/
theorem Rel.freeze {k : Nat} {a : Addr} {vs : List V} {xs : List W} (R : Rel K mg G α O H) (h1 : α.as[k]? = some a) (h2 : O[k]? = some (.lst xs)) (h3 : H a = some (.lst vs)) (h4 : G a = none) : Rel K mg (upd G a (.lst vs)) α (O.set k .gone) H := by
  refine ⟨fun b v e => ?_, by rw [List.length_set]; exact R.len, R.nd, R.liv, fun j b c' q1 q2 => ?_, fun q hq => ?_, R.tb.mono (fun b u h _ o g => by rw [upd_ne (o.ne h1)]; exact g) (fun _ _ h _ _ => h) (fun _ _ _ _ o => o)⟩
  · by_cases z : b = a
    · subst z
      rw [upd_same] at e
      rw [← e]
      exact h3
    · rw [upd_ne z] at e
      exact R.ex b v e
  · by_cases z : k = j
    · subst z
      rw [List.getElem?_set_self (List.getElem?_eq_some_iff.mp h2).1] at q2
      cases q2
      trivial
    · rw [List.getElem?_set_ne z] at q2
      have ne : b ≠ a := nodup_ne R.nd q1 h1 (Ne.symm z)
      refine (R.at_ j b c' q1 q2).mono (Ex.new h4) (Pre.refl _) (fun z => by rw [upd_ne ne]; exact z) (fun x hx z1 z2 => ⟨?_, z2, hx⟩) fun v z => z
      have nx : x ≠ a := fun e => by
        rw [e, h3] at hx
        cases hx
      rw [upd_ne nx]
      exact z1
  · obtain ⟨q1, q2, q3, q4⟩ := R.hd q hq
    have nq : q.1 ≠ a := fun z => q3 (z ▸ List.mem_of_getElem? h1)
    exact ⟨q1, by rw [upd_ne nq]; exact q2, q3, q4⟩
/-- references of cells -/
def tiLt (n : Nat) : PyData ⊕ Nat → Bool
  | .inl _ => true
  | .inr j => decide (j < n)
def W.lt (n : Nat) : W → Bool
  | .c j => decide (j < n)
  | .t xs => xs.all (tiLt n)
  | _ => true
def Cell.lt (n : Nat) : Cell → Bool
  | .lst xs => xs.all (W.lt n)
  | .dic kvs => kvs.all fun p => p.2.lt n
  | .dct kvs => kvs.all fun p => p.2.lt n
  | .ldic _ _ kvs => kvs.all fun p => p.2.lt n
  | .ldct _ _ kvs => kvs.all fun p => p.2.lt n
  | .ins _ fs => fs.all fun p => p.2.lt n
  | .exn _ _ => true
  | .gone => true
def Clo (n : Nat) (O : Oh) : Bool := O.all (Cell.lt n)
theorem RiL.lt : ∀ {vs : List V} {xs : List (PyData ⊕ Nat)}, Paired (Ri K G α) vs xs → xs.all (tiLt α.as.length) = true
  | _, _, .nil => rfl
  | _, .inl x :: _, .cons h t => by rw [List.all_cons, RiL.lt t]; rfl
  | _, .inr k :: _, .cons h t => by
    obtain ⟨a, h1, _⟩ := h
    rw [List.all_cons, RiL.lt t, Bool.and_true]
    exact decide_eq_true (List.getElem?_eq_some_iff.mp h1).1
theorem Rv.lt {v : V} {w : W} (h : Rv K G α v w) : w.lt α.as.length = true := by
  cases w with
  | c k =>
    obtain ⟨a, h1, _⟩ := h
    exact decide_eq_true (List.getElem?_eq_some_iff.mp h1).1
  | t xs =>
    obtain ⟨a, vs, _, _, h⟩ := h
    exact RiL.lt h
  | _ => rfl
theorem RvL.lt : ∀ {vs : List V} {ws : List W}, RvL K G α vs ws → ws.all (W.lt α.as.length) = true
  | _, _, .nil => rfl
  | _, _, .cons h t => by rw [List.all_cons, h.lt, RvL.lt t]; rfl
theorem RK.lt {κ : Type} : ∀ {vs : List (κ × V)} {ws : List (κ × W)}, RK K G α vs ws → (ws.all fun p => p.2.lt α.as.length) = true
  | _, _, .nil => rfl
  | _, _, .cons h t => by rw [List.all_cons, h.2.lt, RK.lt t]; rfl
theorem Rel.clo (R : Rel K mg G α O H) : Clo O.length O = true := by
  unfold Clo
  rw [List.all_eq_true]
  intro c hc
  obtain ⟨k, hk, e⟩ := List.getElem_of_mem hc
  have hk' : k < α.as.length := by rw [R.len]; exact hk
  have z := R.at_ k α.as[k] c (List.getElem?_eq_getElem hk') (by rw [List.getElem?_eq_getElem hk, e])
  rw [← R.len]
  cases c with
  | lst xs => obtain ⟨_, vs, _, h⟩ := z; exact h.lt
  | dic xs => obtain ⟨_, vs, _, h⟩ := z; exact h.lt
  | dct xs => obtain ⟨_, vs, _, h⟩ := z; exact h.lt
  | ldic od es xs => obtain ⟨_, _, h⟩ := z; exact h.lt
  | ldct od es xs => obtain ⟨_, _, h⟩ := z; exact h.lt
  | ins C xs => obtain ⟨_, _, _, _, _, _, _, _, _, h⟩ := z; exact h.lt
  | exn C fs => rfl
  | gone => rfl
theorem RiL.cut {n : Nat} : ∀ {vs : List V} {xs : List (PyData ⊕ Nat)}, Paired (Ri K G α) vs xs → xs.all (tiLt n) = true → Paired (Ri K G (α.cut n)) vs xs
  | _, _, .nil, _ => .nil
  | _, .inl x :: _, .cons h t, l => by
    rw [List.all_cons, Bool.and_eq_true] at l
    exact .cons (show Ri K G (α.cut n) _ (.inl x) from h) (RiL.cut t l.2)
  | _, .inr k :: _, .cons h t, l => by
    rw [List.all_cons, Bool.and_eq_true] at l
    obtain ⟨a, h1, h2⟩ := h
    refine .cons (show Ri K G (α.cut n) _ (.inr k) from ⟨a, ?_, h2⟩) (RiL.cut t l.2)
    show (α.as.take n)[k]? = some a
    rw [List.getElem?_take, if_pos (of_decide_eq_true l.1)]
    exact h1
theorem Rv.cut {v : V} {w : W} {n : Nat} (h : Rv K G α v w) (l : w.lt n = true) : Rv K G (α.cut n) v w := by
  cases w with
  | d x => exact h
  | k ks => exact h
  | p ds => exact h
  | q ks x => exact h
  | o a d fs => exact h
  | e i ks => exact h
  | t xs =>
    obtain ⟨a, vs, h1, h2, h3⟩ := h
    exact ⟨a, vs, h1, h2, RiL.cut h3 l⟩
  | c k =>
    obtain ⟨a, h1, h2⟩ := h
    refine ⟨a, ?_, h2⟩
    show (α.as.take n)[k]? = some a
    rw [List.getElem?_take, if_pos (of_decide_eq_true l)]
    exact h1
theorem RvL.cut {n : Nat} : ∀ {vs : List V} {ws : List W}, RvL K G α vs ws → ws.all (W.lt n) = true → RvL K G (α.cut n) vs ws
  | _, _, .nil, _ => .nil
  | _, _, .cons h t, l => by
    rw [List.all_cons, Bool.and_eq_true] at l
    exact .cons (h.cut l.1) (RvL.cut t l.2)
theorem RK.cut {κ : Type} {n : Nat} : ∀ {vs : List (κ × V)} {ws : List (κ × W)}, RK K G α vs ws → (ws.all fun p => p.2.lt n) = true → RK K G (α.cut n) vs ws
  | _, _, .nil, _ => .nil
  | _, _, .cons h t, l => by
    rw [List.all_cons, Bool.and_eq_true] at l
    exact .cons ⟨h.1, h.2.cut l.1⟩ (RK.cut t l.2)
/-- the last cells are forgotten -/
theorem Rel.cut {n : Nat} (R : Rel K mg G α O H) (l : Clo n (O.take n) = true) : Rel K mg G (α.cut n) (O.take n) H := by
  refine ⟨R.ex, by show (α.as.take n).length = _; rw [List.length_take, List.length_take, R.len], R.nd.sublist (List.take_sublist _ _), fun a ha => R.liv a (List.mem_of_mem_take ha), fun k a c h1 h2 => ?_, fun q hq => ?_, R.tb.mono (fun _ _ _ _ _ g => g) (fun _ _ h _ _ => h) (fun _ _ _ _ o => ⟨fun z => o.1 (List.mem_of_mem_take z), o.2⟩)⟩
  have hc : c.lt n = true := by
    unfold Clo at l
    rw [List.all_eq_true] at l
    exact l c (List.mem_of_getElem? h2)
  have h1 : (α.as.take n)[k]? = some a := h1
  rw [List.getElem?_take] at h1 h2
  have hk : k < n := by
    by_cases z : k < n
    · exact z
    · rw [if_neg z] at h1
      cases h1
  rw [if_pos hk] at h1 h2
  have z := R.at_ k a c h1 h2
  cases c with
  | lst xs => obtain ⟨h0, vs, q, h⟩ := z; exact ⟨h0, vs, q, h.cut hc⟩
  | dic xs => obtain ⟨h0, vs, q, h⟩ := z; exact ⟨h0, vs, q, h.cut hc⟩
  | dct xs => obtain ⟨h0, vs, q, h⟩ := z; exact ⟨h0, vs, q, h.cut hc⟩
  | ldic od es xs => obtain ⟨h0, q, h⟩ := z; exact ⟨h0, q, h.cut hc⟩
  | ldct od es xs => obtain ⟨h0, q, h⟩ := z; exact ⟨h0, q, h.cut hc⟩
  | ins C xs => obtain ⟨h0, Ca, dx, es, q1, q2, q3, q4, q5, h⟩ := z; exact ⟨h0, Ca, dx, es, q1, q2, q3, q4, fun m => q5 (List.mem_of_mem_take m), h.cut hc⟩
  | exn C fs => obtain ⟨h0, Ca, d, q1, q2, q3⟩ := z; exact ⟨h0, Ca, d, q1, q2, q3⟩
  | gone => trivial
  · obtain ⟨q1, q2, q3, q4⟩ := R.hd q hq
    exact ⟨q1, q2, fun z => q3 (List.mem_of_mem_take z), q4⟩
/-! what is hidden -/
def Al.hide (α : Al) (p : Addr) (o : HO) : Al := ⟨α.as, (p, o) :: α.hid⟩
theorem RvL.hide {p : Addr} {o : HO} {vs : List V} {ws : List W} (h : RvL K G α vs ws) : RvL K G (α.hide p o) vs ws := by
  induction h with
  | nil => exact .nil
  | cons r _ ih => exact .cons (by
      rename_i v w _ _ _
      cases w <;> exact r) ih
theorem RiL.to {β : Al} (hb : β.as = α.as) : ∀ {vs : List V} {xs : List (PyData ⊕ Nat)}, Paired (Ri K G α) vs xs → Paired (Ri K G β) vs xs
  | _, _, .nil => .nil
  | _, .inl x :: _, .cons h t => .cons (show Ri K G β _ (.inl x) from h) (RiL.to hb t)
  | _, .inr k :: _, .cons h t => .cons (show Ri K G β _ (.inr k) from by obtain ⟨a, h1, h2⟩ := h; exact ⟨a, by rw [hb]; exact h1, h2⟩) (RiL.to hb t)
theorem COk.to {a : Addr} {c : Cell} {β : Al} (hb : β.as = α.as) (hH : ∀ o, H a = some o → H' a = some o) (hd : ∀ b, H b = some (.own a) → H' b = some (.own a)) (h : COk K mg G α H a c) : COk K mg G β H' a c := by
  have rv : ∀ {v : V} {w : W}, Rv K G α v w → Rv K G β v w := fun {v w} r => by
    cases w with
    | c k => obtain ⟨a, h1, h2⟩ := r; exact ⟨a, by rw [hb]; exact h1, h2⟩
    | t xs => obtain ⟨a, vs, h1, h2, h3⟩ := r; exact ⟨a, vs, h1, h2, RiL.to hb h3⟩
    | _ => exact r
  have rl : ∀ {vs : List V} {ws : List W}, RvL K G α vs ws → RvL K G β vs ws := fun {vs ws} r => by
    induction r with
    | nil => exact .nil
    | cons r _ ih => exact .cons (rv r) ih
  have rk : ∀ {κ : Type} {vs : List (κ × V)} {ws : List (κ × W)}, RK K G α vs ws → RK K G β vs ws := fun {κ vs ws} r => by
    induction r with
    | nil => exact .nil
    | cons r _ ih => exact .cons ⟨r.1, rv r.2⟩ ih
  cases c with
  | lst xs => obtain ⟨h0, vs, q, h⟩ := h; exact ⟨h0, vs, hH _ q, rl h⟩
  | dic xs => obtain ⟨h0, vs, q, h⟩ := h; exact ⟨h0, vs, hH _ q, rk h⟩
  | dct xs => obtain ⟨h0, vs, q, h⟩ := h; exact ⟨h0, vs, hH _ q, rk h⟩
  | ldic od es xs => obtain ⟨h0, q, h⟩ := h; exact ⟨h0, hH _ q, rk h⟩
  | ldct od es xs => obtain ⟨h0, q, h⟩ := h; exact ⟨h0, hH _ q, rk h⟩
  | ins C xs => obtain ⟨h0, Ca, dx, es, q1, q2, q3, q4, q5, h⟩ := h; exact ⟨h0, Ca, dx, es, q1, hH _ q2, hd _ q3, q4, by rw [hb]; exact q5, rk h⟩
  | exn C fs => obtain ⟨h0, Ca, d, q1, q2, q3⟩ := h; exact ⟨h0, Ca, d, q1, hH _ q2, q3⟩
  | gone => trivial
/-- a new thing, hidden -/
theorem Rel.hidden {p : Addr} {o : HO} (R : Rel K mg G α O H) (hp : H p = none) (hno : NoOT o) : Rel K mg G (α.hide p o) O (upd H p o) := by
  have gp : G p = none := R.ex.free hp
  refine ⟨fun a u e => ?_, R.len, R.nd, fun a ha => ?_, fun k a c h1 h2 => ?_, fun q hq => ?_, R.tb.mono (fun _ _ _ _ _ g => g) (fun b u h _ _ => by rw [upd_ne (ne_of_none h hp)]; exact h) (fun b u h _ o => ⟨o.1, fun q hq => (List.mem_cons.mp hq).elim (fun e => by rw [e]; exact (ne_of_none h hp).symm) (o.2 q)⟩)⟩
  · rw [upd_ne (ne_of_none e gp)]
    exact R.ex a u e
  · obtain ⟨u, e⟩ := R.liv a ha
    exact ⟨u, by rw [upd_ne (ne_of_none e hp)]; exact e⟩
  · obtain ⟨u, e⟩ := R.liv a (List.mem_of_getElem? h1)
    have ne : a ≠ p := ne_of_none e hp
    exact (R.at_ k a c h1 h2).to rfl (fun o z => by rw [upd_ne ne]; exact z) fun b z => by rw [upd_ne (ne_of_none z hp)]; exact z
  · rcases List.mem_cons.mp hq with e | hq
    · subst e
      refine ⟨upd_same, gp, fun z => ?_, hno⟩
      obtain ⟨u, e⟩ := R.liv p z
      rw [hp] at e
      cases e
    · obtain ⟨q1, q2, q3, q4⟩ := R.hd q hq
      have nq : q.1 ≠ p := ne_of_none q1 hp
      exact ⟨by rw [upd_ne nq]; exact q1, q2, q3, q4⟩
/-- the hidden thing is written -/
theorem Rel.rehide {p : Addr} {o o' : HO} {η : List (Addr × HO)} (R : Rel K mg G ⟨α.as, (p, o) :: η⟩ O H) (hno : NoOT o') (hη : ∀ q ∈ η, q.1 ≠ p) : Rel K mg G ⟨α.as, (p, o') :: η⟩ O (upd H p o') := by
  obtain ⟨p1, p2, p3, p4⟩ := R.hd (p, o) List.mem_cons_self
  have p1 : H p = some o := p1
  have p2 : G p = none := p2
  have p3 : p ∉ α.as := p3
  refine ⟨fun a u e => ?_, R.len, R.nd, fun a ha => ?_, fun k a c h1 h2 => ?_, fun q hq => ?_, R.tb.mono (fun _ _ _ _ _ g => g) (fun b u h _ f => by rw [upd_ne (fun z => f.2 _ List.mem_cons_self z.symm)]; exact h) (fun b u h _ f => ⟨f.1, fun q hq => (List.mem_cons.mp hq).elim (fun e => by rw [e]; exact f.2 (p, o) List.mem_cons_self) (fun hq => f.2 q (List.mem_cons_of_mem _ hq))⟩)⟩
  · rw [upd_ne (ne_of_none e p2)]
    exact R.ex a u e
  · obtain ⟨u, e⟩ := R.liv a ha
    have ne : a ≠ p := fun z => p3 (z ▸ ha)
    exact ⟨u, by rw [upd_ne ne]; exact e⟩
  · have ne : a ≠ p := fun z => p3 (z ▸ List.mem_of_getElem? h1)
    refine (R.at_ k a c h1 h2).to rfl (fun o z => by rw [upd_ne ne]; exact z) fun b z => ?_
    have nb : b ≠ p := fun e => by
      rw [e, p1] at z
      exact p4.1 a (Option.some.inj z)
    rw [upd_ne nb]
    exact z
  · rcases List.mem_cons.mp hq with e | hq
    · subst e
      exact ⟨upd_same, p2, p3, hno⟩
    · obtain ⟨q1, q2, q3, q4⟩ := R.hd q (List.mem_cons_of_mem _ hq)
      exact ⟨by rw [upd_ne (hη q hq)]; exact q1, q2, q3, q4⟩
/-- the hidden thing comes to light and never changes again -/
theorem Rel.show {p : Addr} {o : HO} {η : List (Addr × HO)} (R : Rel K mg G ⟨α.as, (p, o) :: η⟩ O H) (hη : ∀ q ∈ η, q.1 ≠ p) : Rel K mg (upd G p o) ⟨α.as, η⟩ O H := by
  obtain ⟨p1, p2, p3, p4⟩ := R.hd (p, o) List.mem_cons_self
  have p1 : H p = some o := p1
  have p2 : G p = none := p2
  have p3 : p ∉ α.as := p3
  refine ⟨fun a u e => ?_, R.len, R.nd, R.liv, fun k a c h1 h2 => ?_, fun q hq => ?_, R.tb.mono (fun b u h _ f g => by rw [upd_ne (fun z => f.2 _ List.mem_cons_self z.symm)]; exact g) (fun _ _ h _ _ => h) (fun b u h _ f => ⟨f.1, fun q hq => f.2 q (List.mem_cons_of_mem _ hq)⟩)⟩
  · by_cases z : a = p
    · subst z
      rw [upd_same] at e
      rw [← e]
      exact p1
    · rw [upd_ne z] at e
      exact R.ex a u e
  · have ne : a ≠ p := fun z => p3 (z ▸ List.mem_of_getElem? h1)
    have z := (R.at_ k a c h1 h2).to (β := ⟨α.as, η⟩) (H' := H) rfl (fun _ z => z) fun _ z => z
    refine z.mono (Ex.new p2) (Pre.refl _) (fun z => by rw [upd_ne ne]; exact z) (fun b hb z1 z2 => ?_) fun _ z => z
    have nb : b ≠ p := fun e => by
      rw [e, p1] at hb
      exact p4.1 a (Option.some.inj hb)
    exact ⟨by rw [upd_ne nb]; exact z1, z2, hb⟩
  · obtain ⟨q1, q2, q3, q4⟩ := R.hd q (List.mem_cons_of_mem _ hq)
    exact ⟨q1, by rw [upd_ne (hη q hq)]; exact q2, q3, q4⟩
end
end Dl
namespace Dl
open PySem PySem.Spec PyProof.Rows L2
variable [TabsC]
theorem pe_imp {X : Cx} {e : Expr} {t t' : TE} (i : ∀ σ H Q, t' σ H Q → t σ H Q) (h : PE X e t) : PE X e t' := ⟨fun pins s σ H Q I q => h.run pins s σ H Q I (i _ _ _ q)⟩
theorem pt_imp {X : Cx} {e : Expr} {t t' : TT} (i : ∀ σ H Q, t' σ H Q → t σ H Q) (h : PT X e t) : PT X e t' := ⟨fun pins s σ H Q I q => h.run pins s σ H Q I (i _ _ _ q)⟩
theorem pw_imp {X : Cx} {e : Expr} {t t' : TT} (i : ∀ σ H Q, t' σ H Q → t σ H Q) (h : PW X e t) : PW X e t' := ⟨fun wh pins s σ H Q I q => h.run wh pins s σ H Q I (i _ _ _ q)⟩
theorem pa_imp {X : Cx} {e : List Expr} {t t' : TA} (i : ∀ σ H Q, t' σ H Q → t σ H Q) (h : PA X e t) : PA X e t' := ⟨fun p pins s σ H Q I q => h.run p pins s σ H Q I (i _ _ _ q)⟩
theorem ps_imp {X : Cx} {st : Stmt} {t t' : TS} (i : ∀ D σ H, t' D σ H → t D σ H) (h : PS X st t) : PS X st t' := ⟨fun pins s σ H D I q => h.run pins s σ H D I (i _ _ _ q)⟩
theorem pss_imp {X : Cx} {st : List Stmt} {t t' : TS} (i : ∀ D σ H, t' D σ H → t D σ H) (h : PSs X st t) : PSs X st t' := ⟨fun pins s σ H D I q => h.run pins s σ H D I (i _ _ _ q)⟩
section
variable (K : Fg) (mg : Str → Option Value)
def Post (G : Hp) (α : Al) (R : DK) (Q : VK) : Prop := ∀ r O', R r O' → ∀ v G' α' H', Ex G G' → Pre α α' → Rel K mg G' α' O' H' → Rv K G' α' v r → Q v H'
def PostT (G : Hp) (α : Al) (R : Bool → Oh → Prop) (Q : Bool → Hp → Prop) : Prop := ∀ b O', R b O' → ∀ G' α' H', Ex G G' → Pre α α' → Rel K mg G' α' O' H' → Q b H'
def PostA (G : Hp) (α : Al) (R : List W → Oh → Prop) (Q : List V → Hp → Prop) : Prop := ∀ r O', R r O' → ∀ v G' α' H', Ex G G' → Pre α α' → Rel K mg G' α' O' H' → RvL K G' α' v r → Q v H'
def PostS (G : Hp) (α : Al) (R : Gm → Oh → Prop) (Q : L2.St → Hp → Prop) : Prop := ∀ Γ' O', R Γ' O' → ∀ σ' G' α' H', Ex G G' → Pre α α' → Rel K mg G' α' O' H' → Sl K G' α' Γ' σ' → Q σ' H'
def ExOk (G : Hp) (ex : Exn) (cls : Value) (d : Option Addr) : Prop :=
  ∃ C, mg ex.cls = some (.ref C) ∧ cls = .ref C ∧ (ex.fs = [] → d = none) ∧ (ex.fs ≠ [] → ∃ dd vs, d = some dd ∧ G dd = some (.xd vs) ∧ Paired (fun (p : Str × V) (q : Str × PyData) => p.1 = q.1 ∧ Rp K G p.2 q.2) vs ex.fs)
def XPost (G : Hp) (α : Al) (xe : DX) (Wx : WX) : Prop := ∀ ex Γ' O', xe ex Γ' O' → ∀ cls d σ' G' α' H', Ex G G' → Pre α α' → Rel K mg G' α' O' H' → Sl K G' α' Γ' σ' → ExOk K mg G' ex cls d → Wx cls d σ' H'
def XPostF (G : Hp) (α : Al) (xe : Exn → Oh → Prop) (E : XK) : Prop := ∀ ex O', xe ex O' → ∀ cls d G' α' H', Ex G G' → Pre α α' → Rel K mg G' α' O' H' → ExOk K mg G' ex cls d → E cls d H'
structure PostD (G : Hp) (α : Al) (DD : DEnds) (D : Ends) : Prop where
  nx : PostS K mg G α DD.nx D.nx
  rt : Post K mg G α DD.rt D.rt
  bk : PostS K mg G α DD.bk D.bk
  ct : PostS K mg G α DD.ct D.ct
def liftE (Wx : WX) (w : DEx) : TE := fun σ H Q => ∃ G α Γ O R xe, Sl K G α Γ σ ∧ Rel K mg G α O H ∧ w Γ O R xe ∧ Post K mg G α R Q ∧ XPost K mg G α xe Wx
def liftT (Wx : WX) (w : DT) : TT := fun σ H Q => ∃ G α Γ O R xe, Sl K G α Γ σ ∧ Rel K mg G α O H ∧ w Γ O R xe ∧ PostT K mg G α R Q ∧ XPost K mg G α xe Wx
def liftA (Wx : WX) (w : DA) : TA := fun σ H Q => ∃ G α Γ O R xe, Sl K G α Γ σ ∧ Rel K mg G α O H ∧ w Γ O R xe ∧ PostA K mg G α R Q ∧ XPost K mg G α xe Wx
def liftS (Wx : WX) (w : DSt) : TS := fun D σ H => ∃ G α Γ O DD xe, Sl K G α Γ σ ∧ Rel K mg G α O H ∧ w DD xe Γ O ∧ PostD K mg G α DD D ∧ XPost K mg G α xe Wx
def liftF (w : DFn) : Sp := fun vs H Q E => ∃ G α ws O R xe, RvL K G α vs ws ∧ Rel K mg G α O H ∧ w ws O R xe ∧ Post K mg G α R Q ∧ XPostF K mg G α xe E
end
section
variable {K : Fg} {mg : Str → Option Value} {G G' : Hp} {α α' : Al}
theorem Post.mono {R : DK} {Q : VK} (e : Ex G G') (p : Pre α α') (h : Post K mg G α R Q) : Post K mg G' α' R Q := fun r O' q v G2 α2 H' e2 p2 => h r O' q v G2 α2 H' (e.trans e2) (p.trans p2)
theorem PostT.mono {R : Bool → Oh → Prop} {Q : Bool → Hp → Prop} (e : Ex G G') (p : Pre α α') (h : PostT K mg G α R Q) : PostT K mg G' α' R Q := fun r O' q G2 α2 H' e2 p2 => h r O' q G2 α2 H' (e.trans e2) (p.trans p2)
theorem PostA.mono {R : List W → Oh → Prop} {Q : List V → Hp → Prop} (e : Ex G G') (p : Pre α α') (h : PostA K mg G α R Q) : PostA K mg G' α' R Q := fun r O' q v G2 α2 H' e2 p2 => h r O' q v G2 α2 H' (e.trans e2) (p.trans p2)
theorem PostS.mono {R : Gm → Oh → Prop} {Q : L2.St → Hp → Prop} (e : Ex G G') (p : Pre α α') (h : PostS K mg G α R Q) : PostS K mg G' α' R Q := fun r O' q v G2 α2 H' e2 p2 => h r O' q v G2 α2 H' (e.trans e2) (p.trans p2)
theorem XPost.mono {xe : DX} {Wx : WX} (e : Ex G G') (p : Pre α α') (h : XPost K mg G α xe Wx) : XPost K mg G' α' xe Wx := fun ex Γ' O' q cls d σ' G2 α2 H' e2 p2 => h ex Γ' O' q cls d σ' G2 α2 H' (e.trans e2) (p.trans p2)
theorem XPostF.mono {xe : Exn → Oh → Prop} {E : XK} (e : Ex G G') (p : Pre α α') (h : XPostF K mg G α xe E) : XPostF K mg G' α' xe E := fun ex O' q cls d G2 α2 H' e2 p2 => h ex O' q cls d G2 α2 H' (e.trans e2) (p.trans p2)
theorem PostD.mono {DD : DEnds} {D : Ends} (e : Ex G G') (p : Pre α α') (h : PostD K mg G α DD D) : PostD K mg G' α' DD D := ⟨h.nx.mono e p, h.rt.mono e p, h.bk.mono e p, h.ct.mono e p⟩
theorem Post.here {R : DK} {Q : VK} {r : W} {O : Oh} {v : V} {H : Hp} (h : Post K mg G α R Q) (q : R r O) (R' : Rel K mg G α O H) (rv : Rv K G α v r) : Q v H := h r O q v G α H (Ex.refl _) (Pre.refl _) R' rv
theorem PostT.here {R : Bool → Oh → Prop} {Q : Bool → Hp → Prop} {b : Bool} {O : Oh} {H : Hp} (h : PostT K mg G α R Q) (q : R b O) (R' : Rel K mg G α O H) : Q b H := h b O q G α H (Ex.refl _) (Pre.refl _) R'
theorem PostS.here {R : Gm → Oh → Prop} {Q : L2.St → Hp → Prop} {Γ : Gm} {O : Oh} {σ : L2.St} {H : Hp} (h : PostS K mg G α R Q) (q : R Γ O) (R' : Rel K mg G α O H) (s : Sl K G α Γ σ) : Q σ H := h Γ O q σ G α H (Ex.refl _) (Pre.refl _) R' s
/-- a new thing that never changes is the answer -/
theorem Post.lay {R : DK} {Q : VK} {x : PyData} {O : Oh} {H : Hp} {p : Addr} {o : HO} (h : Post K mg G α R Q) (q : R (.d x) O) (R' : Rel K mg G α O H) (hp : H p = none) (rv : Rp K (upd G p o) (.ref p) x) : Q (.ref p) (upd H p o) :=
  h _ O q _ _ α _ (Ex.new (R'.ex.free hp)) (Pre.refl _) (R'.lay hp) rv
end
theorem takesN0 {X : Cx} : L2N.Takes X (fun _ _ _ _ => False) := fun _ _ x => by
  obtain ⟨_, _, _, _, _, _, _, _, _, _, _, _, _, _, _, _, z⟩ := x
  exact z.elim
/-- what holds of a place in the text -/
structure Good (X : Cx) (Wx : WX) (k : Nat) : Prop where
  tk : L2N.Takes X Wx
  ps : PassesOwn (model X.prog X.w) X.A X.env X.xe
  rm : Room k X.A
  calm : X.calm = true
  nd : X.N.Nodup
section
variable {X : Cx} {Wx : WX} {k : Nat}
def DE (X : Cx) (Wx : WX) (e : Expr) (w : DEx) : Prop := PE X e (liftE X.K X.mg Wx w)
def DTt (X : Cx) (Wx : WX) (e : Expr) (w : DT) : Prop := PT X e (liftT X.K X.mg Wx w)
def DW (X : Cx) (Wx : WX) (e : Expr) (w : DT) : Prop := PW X e (liftT X.K X.mg Wx w)
def DAs (X : Cx) (Wx : WX) (es : List Expr) (w : DA) : Prop := PA X es (liftA X.K X.mg Wx w)
def DS (X : Cx) (Wx : WX) (st : Stmt) (w : DSt) : Prop := PS X st (liftS X.K X.mg Wx w)
def DSs (X : Cx) (Wx : WX) (st : List Stmt) (w : DSt) : Prop := PSs X st (liftS X.K X.mg Wx w)
/-! #### names, constants -/
def dVar (i : Nat) : DEx := fun Γ O R _ => match Γ[i]? with
  | some (some w) => R w O
  | _ => False
theorem de_var (i : Nat) {x : Str} {pos : Pos} (hN : X.N[i]? = some x := by rfl) (hv : Vis X.env.scope x := by first | exact Or.inl rfl | exact Or.inr (Or.inl rfl) | exact Or.inr (Or.inr rfl)) (hd : (x == ("__debug__" : Str)) = false := by decide)
    (hcd : (x == ("__classdict__" : Str)) = false := by decide) : DE X Wx (.Name x pos) (dVar i) := by
  refine pe_imp (fun σ H Q ⟨G, α, Γ, O, R, xe, sl, rel, h, p, _⟩ => ?_) (pv i hN hv hd hcd)
  unfold dVar at h
  split at h
  · next w e =>
    obtain ⟨v, e', r⟩ := sl.at_ i w e
    exact ⟨v, e', p.here h rel r⟩
  · exact h.elim
def dC (x : PyData) : DEx := fun _ O R _ => R (.d x) O
theorem de_c {e : Expr} {v : V} {x : PyData} (h : PE X e (tC v)) (r : ∀ G, Rp X.K G v x) : DE X Wx e (dC x) :=
  pe_imp (fun σ H Q ⟨G, α, Γ, O, R, xe, sl, rel, h, p, _⟩ => p.here h rel (r G)) h
theorem de_int {i : Int} {j : Nat} {pos : Pos} : DE X Wx (.Constant (.int i) j pos) (dC (.int i)) := de_c pe_int fun _ => .int _
theorem de_str {x : Str} {j : Nat} {pos : Pos} (h : PyData.strOk x = true := by decide +kernel) : DE X Wx (.Constant (.str x) j pos) (dC (.str x)) := de_c pe_str fun _ => .str _ h
theorem de_bl {b : Bool} {j : Nat} {pos : Pos} : DE X Wx (.Constant (.bool b) j pos) (dC (.bool b)) := de_c pe_bl fun _ => .bl _
/-! #### two expressions, one after the other -/
abbrev D2 := W → W → Oh → DK → Prop
def OpS (K : Fg) (mg : Str → Option Value) (f : D2) (r : R2) : Prop := ∀ G α O H x y u v R Q, Rel K mg G α O H → Rv K G α u x → Rv K G α v y → f x y O R → Post K mg G α R Q → r u v H Q
def dOp (f : D2) (wa wb : DEx) : DEx := fun Γ O R xe => wa Γ O (fun x O1 => wb Γ O1 (fun y O2 => f x y O2 R) xe) xe
theorem lift_op {K : Fg} {mg : Str → Option Value} {f : D2} {r : R2} {wa wb : DEx} (hs : OpS K mg f r) {σ : L2.St} {H : Hp} {Q : VK} (h : liftE K mg Wx (dOp f wa wb) σ H Q) : tOp r (liftE K mg Wx wa) (liftE K mg Wx wb) σ H Q := by
  obtain ⟨G, α, Γ, O, R, xe, sl, rel, h, p, xp⟩ := h
  refine ⟨G, α, Γ, O, _, xe, sl, rel, h, fun x O1 h1 u G1 α1 H1 e1 p1 rel1 r1 => ?_, xp⟩
  refine ⟨G1, α1, Γ, O1, _, xe, sl.mono e1 p1, rel1, h1, fun y O2 h2 v G2 α2 H2 e2 p2 rel2 r2 => ?_, xp.mono e1 p1⟩
  exact hs G2 α2 O2 H2 x y u v R Q rel2 (r1.mono e2 p2) r2 h2 (p.mono (e1.trans e2) (p1.trans p2))
variable {a b c : Expr} {wa wb wc : DEx} {pos p2 : Pos}
theorem de_op {op : Operator} {f : D2} {r : R2} (ho : OpR X (binaryOp op) r) (hs : OpS X.K X.mg f r) (ha : DE X Wx a wa) (hb : DE X Wx b wb) : DE X Wx (.BinOp a op b pos) (dOp f wa wb) := pe_imp (fun _ _ _ h => lift_op hs h) (pe_op ho ha hb)
theorem de_cmp {op : CmpOp} {f : D2} {r : R2} (ho : OpR X (compareOp op) r) (hs : OpS X.K X.mg f r) (ha : DE X Wx a wa) (hb : DE X Wx b wb) (hm : behindInMarks op b = false := by first | exact nomark _ | rfl) : DE X Wx (.Compare a [op] [b] pos) (dOp f wa wb) :=
  pe_imp (fun _ _ _ h => lift_op hs h) (pe_cmpR ho ha hb hm)
def dB (w : DEx) : DT := fun Γ O R xe => w Γ O (fun r O' => match r with
  | .d (.bool b) => R b O'
  | _ => False) xe
theorem lift_B {K : Fg} {mg : Str → Option Value} {w : DEx} {σ : L2.St} {H : Hp} {Q : Bool → Hp → Prop} (h : liftT K mg Wx (dB w) σ H Q) : liftE K mg Wx w σ H (fun x H1 => ∃ b, x = .bl b ∧ Q b H1) := by
  obtain ⟨G, α, Γ, O, R, xe, sl, rel, h, p, xp⟩ := h
  refine ⟨G, α, Γ, O, _, xe, sl, rel, h, fun x O1 h1 u G1 α1 H1 e1 p1 rel1 r1 => ?_, xp⟩
  try dsimp only at h1
  try dsimp only
  split at h1
  · next b =>
    cases r1
    exact ⟨b, rfl, p _ _ h1 _ _ _ e1 p1 rel1⟩
  · exact h1.elim
theorem dt_cmp {op : CmpOp} {f : D2} {r : R2} (ho : OpR X (compareOp op) r) (hs : OpS X.K X.mg f r) (ha : DE X Wx a wa) (hb : DE X Wx b wb) (hm : behindInMarks op b = false := by first | exact nomark _ | rfl) : DTt X Wx (.Compare a [op] [b] pos) (dB (dOp f wa wb)) := by
  refine pt_imp (fun σ H Q h => ?_) (pt_cmpR ho ha hb hm)
  exact lift_op hs (lift_B h)
theorem dt_val (h : DE X Wx a wa) (he : ∀ whole, isTrue a X.env whole = (do let v ← whole; standAt a.pos; holding [v] (truthy v)) := by intro _; rfl) : DTt X Wx a (dB wa) :=
  pt_imp (fun σ H Q h => lift_B h) (pt_val h he)
/-! #### tests -/
variable {tA tB tC' : DT} {rest : List Expr}
def dAnd (t u : DT) : DT := fun Γ O R xe => t Γ O (fun b O1 => if b = true then u Γ O1 R xe else R false O1) xe
def dOr (t u : DT) : DT := fun Γ O R xe => t Γ O (fun b O1 => if b = true then R true O1 else u Γ O1 R xe) xe
def dNot (t : DT) : DT := fun Γ O R xe => t Γ O (fun b O1 => R (!b) O1) xe
theorem dw_or1 (h : DTt X Wx a tA) : DW X Wx (.BoolOp .Or [a] pos) tA := pw_or1 h
theorem dw_or (h : DTt X Wx a tA) (hb : DW X Wx (.BoolOp .Or (b :: rest) pos) tB) : DW X Wx (.BoolOp .Or (a :: b :: rest) pos) (dOr tA tB) := by
  refine pw_imp (fun σ H Q ⟨G, α, Γ, O, R, xe, sl, rel, h, p, xp⟩ => ?_) (pw_or h hb)
  refine ⟨G, α, Γ, O, _, xe, sl, rel, h, fun x O1 h1 G1 α1 H1 e1 p1 rel1 => ?_, xp⟩
  try dsimp only at h1
  try dsimp only
  split at h1
  · next c =>
    rw [if_pos c]
    exact p _ _ h1 _ _ _ e1 p1 rel1
  · next c =>
    rw [if_neg c]
    exact ⟨G1, α1, Γ, O1, R, xe, sl.mono e1 p1, rel1, h1, p.mono e1 p1, xp.mono e1 p1⟩
theorem DW.t (h : DW X Wx a tA) : DTt X Wx a tA := PW.pt h
theorem dt_not (h : DTt X Wx a tA) : DTt X Wx (.UnaryOp .Not a pos) (dNot tA) := by
  refine pt_imp (fun σ H Q ⟨G, α, Γ, O, R, xe, sl, rel, h, p, xp⟩ => ?_) (pt_not h)
  exact ⟨G, α, Γ, O, _, xe, sl, rel, h, fun x O1 h1 G1 α1 H1 e1 p1 rel1 => p _ _ h1 _ _ _ e1 p1 rel1, xp⟩
/-! .. as values -/
def dAndV (wa wb : DEx) : DEx := fun Γ O R xe => wa Γ O (fun r O1 => match r with
  | .d (.bool b) => if b = true then wb Γ O1 R xe else R (.d (.bool false)) O1
  | _ => False) xe
def dOrV (wa wb : DEx) : DEx := fun Γ O R xe => wa Γ O (fun r O1 => match r with
  | .d (.bool b) => if b = true then R (.d (.bool true)) O1 else wb Γ O1 R xe
  | _ => False) xe
def dNotV (wa : DEx) : DEx := fun Γ O R xe => wa Γ O (fun r O1 => match r with
  | .d (.bool b) => R (.d (.bool (!b))) O1
  | _ => False) xe
theorem de_one {op} (h : DE X Wx a wa) : DE X Wx (.BoolOp op [a] pos) wa := pe_one h
theorem de_and (h : DE X Wx a wa) (hb : DE X Wx (.BoolOp .And (b :: rest) pos) wb) : DE X Wx (.BoolOp .And (a :: b :: rest) pos) (dAndV wa wb) := by
  refine pe_imp (fun σ H Q ⟨G, α, Γ, O, R, xe, sl, rel, h, p, xp⟩ => ?_) (pe_and h hb)
  refine ⟨G, α, Γ, O, _, xe, sl, rel, h, fun x O1 h1 u G1 α1 H1 e1 p1 rel1 r1 => ?_, xp⟩
  try dsimp only at h1
  try dsimp only
  split at h1
  · next bb =>
    cases r1
    refine ⟨bb, rfl, ?_⟩
    try dsimp only at h1
    try dsimp only
    split at h1
    · next c =>
      rw [if_pos c]
      exact ⟨G1, α1, Γ, O1, R, xe, sl.mono e1 p1, rel1, h1, p.mono e1 p1, xp.mono e1 p1⟩
    · next c =>
      rw [if_neg c]
      exact p _ _ h1 _ _ _ _ e1 p1 rel1 (.bl _)
  · exact h1.elim
def dIfE (t : DT) (wa wb : DEx) : DEx := fun Γ O R xe => t Γ O (fun b O1 => if b = true then wa Γ O1 R xe else wb Γ O1 R xe) xe
/-! #### arguments, displays -/
variable {es : List Expr} {ws : DA}
def dNil : DA := fun _ O R _ => R [] O
def dCons (wa : DEx) (ws : DA) : DA := fun Γ O R xe => wa Γ O (fun x O1 => ws Γ O1 (fun xs O2 => R (x :: xs) O2) xe) xe
theorem da_nil : DAs X Wx [] dNil := pa_imp (fun σ H Q ⟨G, α, Γ, O, R, xe, sl, rel, h, p, xp⟩ => p _ _ h _ _ _ _ (Ex.refl _) (Pre.refl _) rel .nil) pa_nil
theorem da_cons (ha : DE X Wx a wa) (hr : DAs X Wx es ws) (hs : starEach (a :: es) X.env = (false, eval a X.env) :: starEach es X.env := by rfl) : DAs X Wx (a :: es) (dCons wa ws) := by
  refine pa_imp (fun σ H Q ⟨G, α, Γ, O, R, xe, sl, rel, h, p, xp⟩ => ?_) (pa_cons ha hr hs)
  refine ⟨G, α, Γ, O, _, xe, sl, rel, h, fun x O1 h1 u G1 α1 H1 e1 p1 rel1 r1 => ?_, xp⟩
  refine ⟨G1, α1, Γ, O1, _, xe, sl.mono e1 p1, rel1, h1, fun y O2 h2 v G2 α2 H2 e2 p2 rel2 r2 => ?_, xp.mono e1 p1⟩
  exact p _ _ h2 _ _ _ _ (e1.trans e2) (p1.trans p2) rel2 (.cons (r1.mono e2 p2) r2)
/-- the data of values that never change -/
def datas : List W → Option (List PyData)
  | [] => some []
  | .d x :: r => match datas r with
    | some xs => some (x :: xs)
    | none => none
  | _ :: _ => none
theorem datas_map (ds : List PyData) : datas (ds.map W.d) = some ds := by
  induction ds with
  | nil => rfl
  | cons d ds ih => show (match datas (ds.map W.d) with | some xs => some (d :: xs) | none => none) = _; rw [ih]
theorem datas_eq : ∀ {ws : List W} {ds : List PyData}, datas ws = some ds → ws = ds.map W.d
  | [], ds, h => by cases h; rfl
  | .d x :: r, ds, h => by
    unfold datas at h
    split at h
    · next xs e => cases h; rw [datas_eq e]; rfl
    · cases h
  | .c _ :: _, _, h => by cases h
  | .k _ :: _, _, h => by cases h
  | .p _ :: _, _, h => by cases h
  | .q _ _ :: _, _, h => by cases h
  | .o _ _ _ :: _, _, h => by cases h
  | .t _ :: _, _, h => by cases h
def dTup (w : DA) : DEx := fun Γ O R xe => w Γ O (fun ws O1 => match datas ws with
  | some ds => ds.length ≤ 1000000 ∧ R (.d (.tuple ds)) O1
  | none => False) xe
def dLst (w : DA) : DEx := fun Γ O R xe => w Γ O (fun ws O1 => match datas ws with
  | some ds => ds.length ≤ 1000000 ∧ R (.d (.list ds)) O1
  | none => False) xe
/-- a list that will change -/
def dLstC (w : DA) : DEx := fun Γ O R xe => w Γ O (fun ws O1 => ws.length ≤ 1000000 ∧ R (.c O1.length) (O1 ++ [.lst ws])) xe
theorem szl {n : Nat} (h : n ≤ 1000000) : n ≤ sizeLine := Nat.le_trans h (by decide)
theorem szlt {n : Nat} (h : n < 1000000) : n < sizeLine := Nat.lt_of_lt_of_le h (by decide)
/-- a tuple of written items, known to have no dict of its own -/
def tTupF (t : TA) : TE := fun σ H Q => t σ H fun xs H1 => xs.length ≤ sizeLine ∧ ∀ p ob, H1 p = none → ob.dict = none → Q (.ref p) (upd H1 p (.frz ob (.tup xs)))
theorem pe_tupF {es : List Expr} {t : TA} {x1} (h : PA X es t) : PE X (.Tuple es x1 pos) (tTupF t) := by
  refine ⟨fun pins s σ H Q I hq => ?_⟩
  refine wpAny_Tuple_spliced (thn (h.run pos pins s σ H _ I hq) fun us s1 ⟨xs, H1, I1, r, z, q⟩ => ⟨by rw [← r.length]; exact z, ?_⟩)
  have hf : H1 s1.heap.objs.size = none := I1.hok.fresh (Nat.le_refl _)
  refine ⟨.ref s1.heap.objs.size, upd H1 s1.heap.objs.size (.frz { cls := .type "tuple", data := .seq us.toArray } (.tup xs)), I1.laid (t' := s1.toks) (fun b u e => Heap.get?_push_of_some _ e) (Nat.le_refl _) ?_, rfl, q _ _ hf rfl⟩
  exact ⟨Heap.get?_push_size _ rfl, z, us, r, ⟨_, Heap.get?_push_size _ rfl, rfl, _, rfl⟩⟩
theorem Post.layF {K : Fg} {mg : Str → Option Value} {G : Hp} {α : Al} {R : DK} {Q : VK} {ds : List PyData} {vs : List V} {O : Oh} {H : Hp} {p : Addr} {ob : Obj} (h : Post K mg G α R Q) (q : R (.d (.tuple ds)) O) (R' : Rel K mg G α O H) (hp : H p = none) (hd : ob.dict = none) (rv : RpL K G vs ds) : Q (.ref p) (upd H p (.frz ob (.tup vs))) := by
  have gp := R'.ex.free hp
  exact h.lay q R' hp (.tup (.inl (.inr ⟨ob, upd_same⟩)) (.inl ⟨ob, _, upd_same, hd⟩) (rv.mono (Ex.new gp)))
theorem de_tup {x1} (h : DAs X Wx es ws) : DE X Wx (.Tuple es x1 pos) (dTup ws) := by
  refine pe_imp (fun σ H Q ⟨G, α, Γ, O, R, xe, sl, rel, h, p, xp⟩ => ?_) (pe_tupF h)
  refine ⟨G, α, Γ, O, _, xe, sl, rel, h, fun y O1 h1 vs G1 α1 H1 e1 p1 rel1 r1 => ?_, xp⟩
  try dsimp only at h1
  try dsimp only
  split at h1
  · next ds e =>
    rw [datas_eq e] at r1
    have r2 := r1.toD
    exact ⟨by rw [r2.length]; exact szl h1.1, fun q ob hq hd => (p.mono e1 p1).layF h1.2 rel1 hq hd r2⟩
  · exact h1.elim
theorem de_lst (h : DAs X Wx es ws) : DE X Wx (.List es pos) (dLst ws) := by
  refine pe_imp (fun σ H Q ⟨G, α, Γ, O, R, xe, sl, rel, h, p, xp⟩ => ?_) (pe_lst h)
  refine ⟨G, α, Γ, O, _, xe, sl, rel, h, fun y O1 h1 vs G1 α1 H1 e1 p1 rel1 r1 => ?_, xp⟩
  try dsimp only at h1
  try dsimp only
  split at h1
  · next ds e =>
    rw [datas_eq e] at r1
    have r2 := r1.toD
    refine ⟨by rw [r2.length]; exact szl h1.1, fun q hq => ?_⟩
    have rel2 := rel1.lay (o := .lst vs) hq
    have e2 : Ex G1 (upd G1 q (.lst vs)) := Ex.new (rel1.ex.free hq)
    exact p _ _ h1.2 _ _ _ _ (e1.trans e2) p1 rel2 (.lst upd_same (r2.mono e2))
  · exact h1.elim
theorem pre_len {α : Al} {p : Addr} {O : Oh} (h : α.as.length = O.length) : (α.push p).as[O.length]? = some p := by
  show (α.as ++ [p])[O.length]? = some p
  rw [List.getElem?_append_right (by omega), h, Nat.sub_self]
  rfl
theorem de_lstC (h : DAs X Wx es ws) : DE X Wx (.List es pos) (dLstC ws) := by
  refine pe_imp (fun σ H Q ⟨G, α, Γ, O, R, xe, sl, rel, h, p, xp⟩ => ?_) (pe_lst h)
  refine ⟨G, α, Γ, O, _, xe, sl, rel, h, fun y O1 h1 vs G1 α1 H1 e1 p1 rel1 r1 => ?_, xp⟩
  refine ⟨by rw [r1.len]; exact szl h1.1, fun q hq => ?_⟩
  have rel2 := rel1.cell (o := .lst vs) (c := .lst y) hq (fun b z => by cases z) ⟨rel1.ex.free hq, vs, upd_same, r1.mono (Ex.refl _) (Pre.push)⟩
  exact p _ _ h1.2 _ _ _ _ e1 (p1.trans (Pre.push)) rel2 ⟨q, pre_len rel1.len, rfl⟩
end
end Dl
namespace Dl
open PySem PySem.Spec PyProof.Rows L2
variable [TabsC]
section
variable {X : Cx} {Wx : WX} {k : Nat} {a b c e : Expr} {wa wb wc we : DEx} {pos p2 : Pos} {t u : DSt} {st : Stmt} {rest : List Stmt}
/-! #### statements -/
def dNext : DSt := fun D _ Γ O => D.nx Γ O
def dSeq (t u : DSt) : DSt := fun D xe Γ O => t { D with nx := u D xe } xe Γ O
def dBreak : DSt := fun D _ Γ O => D.bk Γ O
def dCont : DSt := fun D _ Γ O => D.ct Γ O
def dDrop (w : DEx) : DSt := fun D xe Γ O => w Γ O (fun _ O1 => D.nx Γ O1) xe
def dRet (w : DEx) : DSt := fun D xe Γ O => w Γ O D.rt xe
def dRetN : DSt := fun D _ _ O => D.rt (.d .none) O
def dIf (c : DT) (t u : DSt) : DSt := fun D xe Γ O => c Γ O (fun b O1 => if b = true then t D xe Γ O1 else u D xe Γ O1) xe
theorem dss_nil : DSs X Wx [] dNext := pss_imp (fun D σ H ⟨G, α, Γ, O, DD, xe, sl, rel, h, p, xp⟩ => p.nx.here h rel sl) pss_nil
theorem dss_cons (h1 : DS X Wx st t) (h2 : DSs X Wx rest u) : DSs X Wx (st :: rest) (dSeq t u) := by
  refine pss_imp (fun D σ H ⟨G, α, Γ, O, DD, xe, sl, rel, h, p, xp⟩ => ?_) (pss_cons h1 h2)
  refine ⟨G, α, Γ, O, _, xe, sl, rel, h, ⟨fun Γ1 O1 h1 σ1 G1 α1 H1 e1 p1 rel1 sl1 => ?_, p.rt, p.bk, p.ct⟩, xp⟩
  exact ⟨G1, α1, Γ1, O1, DD, xe, sl1, rel1, h1, p.mono e1 p1, xp.mono e1 p1⟩
theorem dss_one (h1 : DS X Wx st t) : DSs X Wx [st] t := pss_one h1
theorem ds_expr (he : DE X Wx e we) (hs : swapsWith e none pos.line X.env = pure false := by rfl) : DS X Wx (.Expr e pos) (dDrop we) := by
  refine ps_imp (fun D σ H ⟨G, α, Γ, O, DD, xe, sl, rel, h, p, xp⟩ => ?_) (ps_expr he hs)
  exact ⟨G, α, Γ, O, _, xe, sl, rel, h, fun x O1 h1 v G1 α1 H1 e1 p1 rel1 r1 => p.nx _ _ h1 _ _ _ _ e1 p1 rel1 (sl.mono e1 p1), xp⟩
theorem ds_ret (he : DE X Wx e we) : DS X Wx (.Return (some e) pos) (dRet we) := by
  refine ps_imp (fun D σ H ⟨G, α, Γ, O, DD, xe, sl, rel, h, p, xp⟩ => ?_) (ps_ret he)
  exact ⟨G, α, Γ, O, _, xe, sl, rel, h, p.rt, xp⟩
theorem ds_if {tc : DT} {sa sb : List Stmt} (hc : DTt X Wx c tc) (ha : DSs X Wx sa t) (hb : DSs X Wx sb u) : DS X Wx (.If c sa sb pos) (dIf tc t u) := by
  refine ps_imp (fun D σ H ⟨G, α, Γ, O, DD, xe, sl, rel, h, p, xp⟩ => ?_) (ps_if hc ha hb)
  refine ⟨G, α, Γ, O, _, xe, sl, rel, h, fun x O1 h1 G1 α1 H1 e1 p1 rel1 => ?_, xp⟩
  dsimp only at h1 ⊢
  split at h1
  · next c =>
    rw [if_pos c]
    exact ⟨G1, α1, Γ, O1, DD, xe, sl.mono e1 p1, rel1, h1, p.mono e1 p1, xp.mono e1 p1⟩
  · next c =>
    rw [if_neg c]
    exact ⟨G1, α1, Γ, O1, DD, xe, sl.mono e1 p1, rel1, h1, p.mono e1 p1, xp.mono e1 p1⟩
/-! #### targets: names and tuples of such -/
inductive Tg where
  | nm (i : Nat)
  | tup (ts : List Tg)
mutual
def Tg.g (K : Fg) : Tg → TG
  | .nm i => gName i
  | .tup ts => gTup K (Tg.len ts) (Tg.gs K ts)
def Tg.gs (K : Fg) : List Tg → TGs
  | [] => gNil
  | t :: ts => gCons (Tg.g K t) (Tg.gs K ts)
def Tg.len : List Tg → Nat
  | [] => 0
  | _ :: ts => Tg.len ts + 1
end
mutual
/-- what a store makes of the slots -/
def Tg.put : Tg → W → Gm → (Gm → Prop) → Prop
  | .nm i, w, Γ, R => R (Γ.set i (some w))
  | .tup ts, w, Γ, R => match w with
    | .d (.tuple ds) => Tg.puts ts (ds.map W.d) Γ R
    | .p ds => Tg.puts ts (ds.map W.d) Γ R
    | .k ks => Tg.puts ts (ks.map fun x => W.d (keyD x)) Γ R
    | .q ks x => Tg.puts ts [.k ks, .d x] Γ R
    | .t xs => Tg.puts ts (xs.map tiW) Γ R
    | .e i ks => Tg.puts ts [.d (.int i), .k ks] Γ R
    | _ => False
def Tg.puts : List Tg → List W → Gm → (Gm → Prop) → Prop
  | [], ds, Γ, R => match ds with
    | [] => R Γ
    | _ :: _ => False
  | t :: ts, ds, Γ, R => match ds with
    | [] => False
    | d :: r => Tg.put t d Γ fun Γ1 => Tg.puts ts r Γ1 R
end
mutual
/-- the slots it stores to lie among these -/
def Tg.sub (own : List Nat) : Tg → Bool
  | .nm i => decide (i ∈ own)
  | .tup ts => Tg.subs own ts
def Tg.subs (own : List Nat) : List Tg → Bool
  | [] => true
  | t :: ts => t.sub own && Tg.subs own ts
end
theorem wipe_set {i : Nat} {v : Option V} : ∀ {own : List Nat} {σ : L2.St}, i ∈ own → wipe (σ.set i v) own = wipe σ own
  | j :: r, σ, h => by
    show (wipe (σ.set i v) r).set j none = (wipe σ r).set j none
    by_cases z : i ∈ r
    · rw [wipe_set z]
    · have e : j = i := by
        rcases List.mem_cons.mp h with h | h
        · exact h.symm
        · exact absurd h z
      subst e
      have com : ∀ {q : List Nat}, j ∉ q → wipe (σ.set j v) q = (wipe σ q).set j v := by
        intro q
        induction q with
        | nil => intro _; rfl
        | cons m q ih =>
          intro hm
          have h1 : j ≠ m := fun e => hm (e ▸ List.mem_cons_self)
          have h2 : j ∉ q := fun e => hm (List.mem_cons_of_mem _ e)
          show (wipe (σ.set j v) q).set m none = ((wipe σ q).set m none).set j v
          rw [ih h2, List.set_comm _ _ h1]
      rw [com z, List.set_set]
section
variable {K : Fg} {mg : Str → Option Value} {G : Hp} {α : Al} {H : Hp}
mutual
theorem Tg.put_ok : ∀ (t : Tg) {w : W} {v : V} {Γ : Gm} {σ : L2.St} {R : Gm → Prop} {O : Oh} {Q : L2.St → Hp → Prop}, Rel K mg G α O H → Sl K G α Γ σ → Rv K G α v w → t.put w Γ R →
    (∀ Γ' σ', R Γ' → Sl K G α Γ' σ' → (∀ own, t.sub own = true → wipe σ' own = wipe σ own) → Q σ' H) → t.g K v σ H Q
  | .nm i, w, v, Γ, σ, R, O, Q, rel, sl, rv, h, q => by
    refine q _ _ h (sl.set rv i) fun own ho => wipe_set (of_decide_eq_true ho)
  | .tup ts, w, v, Γ, σ, R, O, Q, rel, sl, rv, h, q => by
    match w, h with
    | .d (.tuple ds), h =>
      cases rv with
      | tup hs td ha =>
        rename_i a xs
        have r := RvL.ofD (α := α) ha
        exact ⟨a, xs, rfl, rel.ex.sqT hs, by rw [r.len]; exact Tg.puts_len ts h, Tg.puts_ok ts rel sl r h q⟩
    | .p ds, h =>
      obtain ⟨a, xs, rfl, hs, ha⟩ := rv
      have r := RvL.ofD (α := α) ha
      exact ⟨a, xs, rfl, rel.ex.sqT hs, by rw [r.len]; exact Tg.puts_len ts h, Tg.puts_ok ts rel sl r h q⟩
    | .k ks, h =>
      obtain ⟨ok, a, rfl, hs⟩ := rv
      have r : RvL K G α (ks.map kV) (ks.map fun x => W.d (keyD x)) := by
        have z := RvL.ofD (α := α) (RpL.keys (K := K) (G := G) ok)
        rwa [List.map_map] at z
      exact ⟨a, _, rfl, rel.ex.sqT (SqT.of hs), by rw [r.len]; exact Tg.puts_len ts h, Tg.puts_ok ts rel sl r h q⟩
    | .q ks x, h =>
      obtain ⟨ok, a, b, u, rfl, hs, hb, hu⟩ := rv
      have r : RvL K G α [.ref b, u] [.k ks, .d x] := .cons ⟨ok, b, rfl, hb⟩ (.cons hu .nil)
      exact ⟨a, _, rfl, rel.ex.sqT hs, by rw [r.len]; exact Tg.puts_len ts h, Tg.puts_ok ts rel sl r h q⟩
    | .t xs, h =>
      obtain ⟨a, vs, rfl, hs, hr⟩ := rv
      have r := RiL.rv hr
      exact ⟨a, _, rfl, rel.ex.sqT (SqT.of hs), by rw [r.len]; exact Tg.puts_len ts h, Tg.puts_ok ts rel sl r h q⟩
    | .e i ks, h =>
      obtain ⟨ok, a, b, rfl, hs, hb⟩ := rv
      have r : RvL K G α [.int i, .ref b] [.d (.int i), .k ks] := .cons (show Rp K G (.int i) (.int i) from .int i) (.cons ⟨ok, b, rfl, hb⟩ .nil)
      exact ⟨a, _, rfl, rel.ex.sqT hs, by rw [r.len]; exact Tg.puts_len ts h, Tg.puts_ok ts rel sl r h q⟩
theorem Tg.puts_ok : ∀ (ts : List Tg) {ds : List W} {vs : List V} {Γ : Gm} {σ : L2.St} {R : Gm → Prop} {O : Oh} {Q : L2.St → Hp → Prop}, Rel K mg G α O H → Sl K G α Γ σ → RvL K G α vs ds → Tg.puts ts ds Γ R →
    (∀ Γ' σ', R Γ' → Sl K G α Γ' σ' → (∀ own, Tg.subs own ts = true → wipe σ' own = wipe σ own) → Q σ' H) → Tg.gs K ts vs σ H Q
  | [], ds, vs, Γ, σ, R, O, Q, rel, sl, rv, h, q => by
    match ds, h with
    | [], h =>
      cases rv
      exact ⟨rfl, q _ _ h sl fun _ _ => rfl⟩
  | t :: ts, ds, vs, Γ, σ, R, O, Q, rel, sl, rv, h, q => by
    match ds, h with
    | d :: r, h =>
      cases rv with
      | cons r1 r2 =>
        rename_i v vr
        refine ⟨v, vr, rfl, Tg.put_ok t rel sl (w := d) r1 h fun Γ1 σ1 h1 sl1 w1 => ?_⟩
        refine Tg.puts_ok ts rel sl1 r2 h1 fun Γ2 σ2 h2 sl2 w2 => ?_
        refine q Γ2 σ2 h2 sl2 fun own ho => ?_
        have ho' : t.sub own = true ∧ Tg.subs own ts = true := by
          have z : (t.sub own && Tg.subs own ts) = true := ho
          rwa [Bool.and_eq_true] at z
        rw [w2 own ho'.2, w1 own ho'.1]
theorem Tg.puts_len : ∀ (ts : List Tg) {ds : List W} {Γ : Gm} {R : Gm → Prop}, Tg.puts ts ds Γ R → ds.length = Tg.len ts
  | [], ds, Γ, R, h => by
    match ds, h with
    | [], h => rfl
  | t :: ts, ds, Γ, R, h => by
    match ds, h with
    | d :: r, h =>
      show r.length + 1 = Tg.len ts + 1
      obtain ⟨Γ1, h1⟩ := Tg.put_some t h
      rw [Tg.puts_len ts h1]
theorem Tg.put_some : ∀ (t : Tg) {w : W} {Γ : Gm} {R : Gm → Prop}, t.put w Γ R → ∃ Γ', R Γ'
  | .nm i, w, Γ, R, h => ⟨_, h⟩
  | .tup ts, w, Γ, R, h => by
    match w, h with
    | .d (.tuple ds), h => exact Tg.puts_some ts h
    | .p ds, h => exact Tg.puts_some ts h
    | .k ks, h => exact Tg.puts_some ts h
    | .q ks x, h => exact Tg.puts_some ts h
    | .t xs, h => exact Tg.puts_some ts h
    | .e i ks, h => exact Tg.puts_some ts h
theorem Tg.puts_some : ∀ (ts : List Tg) {ds : List W} {Γ : Gm} {R : Gm → Prop}, Tg.puts ts ds Γ R → ∃ Γ', R Γ'
  | [], ds, Γ, R, h => by
    match ds, h with
    | [], h => exact ⟨_, h⟩
  | t :: ts, ds, Γ, R, h => by
    match ds, h with
    | d :: r, h =>
      obtain ⟨Γ1, h1⟩ := Tg.put_some t h
      exact Tg.puts_some ts h1
end
end
/-- name = e, (a, b) = e -/
def dAsg (w : DEx) (t : Tg) : DSt := fun D xe Γ O => w Γ O (fun x O1 => t.put x Γ fun Γ' => D.nx Γ' O1) xe
theorem lift_asg {K : Fg} {mg : Str → Option Value} {w : DEx} {t : Tg} {D : Ends} {σ : L2.St} {H : Hp} (h : liftS K mg Wx (dAsg w t) D σ H) : tAsg (liftE K mg Wx w) (t.g K) D σ H := by
  obtain ⟨G, α, Γ, O, DD, xe, sl, rel, h, p, xp⟩ := h
  refine ⟨G, α, Γ, O, _, xe, sl, rel, h, fun x O1 h1 v G1 α1 H1 e1 p1 rel1 r1 => ?_, xp⟩
  exact Tg.put_ok t rel1 (sl.mono e1 p1) r1 h1 fun Γ' σ' q sl' _ => p.nx _ _ q _ _ _ _ e1 p1 rel1 sl'
theorem ds_set (g : Good X Wx k) {i : Nat} {x : Str} {pos' : Pos} (hi : X.N[i]? = some x) (hx : Loc X.env.scope x) (he : DE X Wx e we) (hs : swapsWith e (some (.Name x pos')) pos.line X.env = pure false := by rfl) (hf : X.fn x = true ∨ X.env.scope.names.lookup x = some .local := by first | exact .inl rfl | exact .inr rfl | assumption) :
    DS X Wx (.Assign [.Name x pos'] e pos) (dAsg we (.nm i)) := ps_imp (fun D σ H h => lift_asg h) (ps_set g.nd hi hx he hs hf)
/-- a, b = e1, e2 -/
def dPar (i j : Nat) (ws : DA) : DSt := fun D xe Γ O => ws Γ O (fun vs O1 => match vs with
  | [v, w] => D.nx ((Γ.set i (some v)).set j (some w)) O1
  | _ => False) xe
/-! #### what is walked -/
theorem pre_get' {α α' : Al} {k : Nat} {a : Addr} (h : α.as <+: α'.as) (e : α.as[k]? = some a) : α'.as[k]? = some a := by
  obtain ⟨t, ht⟩ := h
  rw [← ht, List.getElem?_append_left (List.getElem?_eq_some_iff.mp e).1]
  exact e
theorem Rv.mono' {K : Fg} {G G' : Hp} {α α' : Al} {v : V} {w : W} (e : Ex G G') (p : α.as <+: α'.as) (h : Rv K G α v w) : Rv K G' α' v w := by
  have h' : Rv K G ⟨α.as, α'.hid⟩ v w := by cases w <;> exact h
  have pp : Pre ⟨α.as, α'.hid⟩ α' := ⟨p, rfl⟩
  exact h'.mono e pp
theorem Sl.mono' {K : Fg} {G G' : Hp} {α α' : Al} {Γ : Gm} {σ : L2.St} (e : Ex G G') (p : α.as <+: α'.as) (h : Sl K G α Γ σ) : Sl K G' α' Γ σ := ⟨h.len, fun i w q => by
  obtain ⟨v, h1, h2⟩ := h.at_ i w q
  exact ⟨v, h1, h2.mono' e p⟩⟩
abbrev DI := Gm → Oh → (List W → (Oh → Prop) → Oh → Prop) → DX → Prop
/-- the walk of J yields just these, while ok holds -/
def Sim (K : Fg) (mg : Str → Option Value) (J : It) (G0 : Hp) (α0 : Al) (xs : List W) (ok : Oh → Prop) : Prop := ∀ (i : Nat) (G : Hp) (α : Al) (O : Oh) (H : Hp), Ex G0 G → α0.as <+: α.as → Rel K mg G α O H → ok O →
  (xs.length ≤ i → J.stop i H) ∧ ∀ w, xs[i]? = some w → J.go i H ∧ ∀ x H', J.yld i H x H' → ∃ G', Ex G G' ∧ Rel K mg G' α O H' ∧ Rv K G' α x w
def liftI (K : Fg) (mg : Str → Option Value) (Wx : WX) (w : DI) : TI := fun σ H R => ∃ G α Γ O S xe, Sl K G α Γ σ ∧ Rel K mg G α O H ∧ w Γ O S xe ∧ XPost K mg G α xe Wx ∧
  ∀ xs ok O', S xs ok O' → ∀ J G' α' H', Ex G G' → Pre α α' → Rel K mg G' α' O' H' → Sim K mg J G' α' xs ok → R J H'
def DIt (X : Cx) (Wx : WX) (tg it : Expr) (w : DI) : Prop := PI X tg it (liftI X.K X.mg Wx w)
theorem pi_imp {X : Cx} {tg it : Expr} {t t' : TI} (i : ∀ σ H R, t' σ H R → t σ H R) (h : PI X tg it t) : PI X tg it t' := ⟨fun pins s σ H R I q => h.run pins s σ H R I (i _ _ _ q)⟩
/-- a list or a tuple -/
def dSeqI (w : DEx) : DI := fun Γ O S xe => w Γ O (fun r O1 => match r with
  | .d (.list ds) => S (ds.map W.d) (fun _ => True) O1
  | .d (.tuple ds) => S (ds.map W.d) (fun _ => True) O1
  | .c k => match O1[k]? with
    | some (.lst ws) => S ws (fun O => O[k]? = some (.lst ws)) O1
    | _ => False
  | _ => False) xe
def iSeq (K : Fg) (tl : TE) : TI := fun σ H R => tl σ H fun x H1 => (∃ a, x = .ref a ∧ (∃ xs, SqL K H1 a xs) ∧ R (Itl K a) H1) ∨ (∃ a, x = .ref a ∧ (∃ xs, SqT K H1 a xs) ∧ R (Itt K a) H1)
theorem pi_seq {tg l : Expr} {tl : TE} (hl : PE X l tl) : PI X tg l (iSeq X.K tl) := by
  refine ⟨fun pins s σ H R I h => ?_⟩
  refine thn (hl.run pins s σ H _ I h) fun v s1 ⟨x, H1, I1, r1, q1⟩ => ?_
  rcases q1 with ⟨a, e, ⟨xs, hq⟩, q⟩ | ⟨a, e, ⟨xs, hq⟩, q⟩
  · subst e
    cases r1
    obtain ⟨its, rv, p, hz⟩ := I1.list hq
    refine wpAny_pyIter_list p.isList ?_
    refine ⟨s1.heap.objs.size, [s1.heap.objs.size], _, _, H1, rfl, I1.kept (t' := s1.toks) fun b o e => Heap.get?_push_of_some _ e, turn_list a _, ⟨_, Heap.get?_push_size _ rfl, rfl, rfl⟩, fun b hb => ?_, q⟩
    have e : b = s1.heap.objs.size := by simpa using hb
    subst e
    exact I1.fpOk (Nat.le_refl _) (I1.hok.fresh (Nat.le_refl _))
  · subst e
    cases r1
    obtain ⟨its, rv, p, hz⟩ := I1.tuple hq
    refine wpAny_pyIter_tuple (show s1.heap.IsTuple a its.toArray from p) ?_
    refine ⟨s1.heap.objs.size, [s1.heap.objs.size], _, _, H1, rfl, I1.kept (t' := s1.toks) fun b o e => Heap.get?_push_of_some _ e, turn_tuple a _, ⟨_, Heap.get?_push_size _ rfl, rfl, rfl⟩, fun b hb => ?_, q⟩
    have e : b = s1.heap.objs.size := by simpa using hb
    subst e
    exact I1.fpOk (Nat.le_refl _) (I1.hok.fresh (Nat.le_refl _))
theorem sim_list {K : Fg} {mg : Str → Option Value} {G0 : Hp} {α0 : Al} {a : Addr} {vs : List V} {ds : List PyData} (h : SqL K G0 a vs) (r : RpL K G0 vs ds) : Sim K mg (Itl K a) G0 α0 (ds.map W.d) fun _ => True := by
  intro i G α O H e p rel _
  have h' : SqL K H a vs := rel.ex.sqL (e.sqL h)
  refine ⟨fun hi => ⟨vs, h', by rw [r.length]; rw [List.length_map] at hi; exact hi⟩, fun w hw => ?_⟩
  rw [List.getElem?_map] at hw
  cases hd : ds[i]? with
  | none => rw [hd] at hw; cases hw
  | some d =>
    rw [hd] at hw
    cases hw
    obtain ⟨v, hv, rv⟩ := r.get hd
    refine ⟨⟨vs, v, h', hv⟩, fun x H' ⟨eH, y⟩ => ?_⟩
    subst eH
    have := y vs h'
    rw [hv] at this
    cases this
    exact ⟨G, Ex.refl _, rel, rv.mono e⟩
theorem sim_tup {K : Fg} {mg : Str → Option Value} {G0 : Hp} {α0 : Al} {a : Addr} {vs : List V} {ds : List PyData} (h : SqT K G0 a vs) (r : RpL K G0 vs ds) : Sim K mg (Itt K a) G0 α0 (ds.map W.d) fun _ => True := by
  intro i G α O H e p rel _
  have h' : SqT K H a vs := rel.ex.sqT (e.sqT h)
  refine ⟨fun hi => ⟨vs, h', by rw [r.length]; rw [List.length_map] at hi; exact hi⟩, fun w hw => ?_⟩
  rw [List.getElem?_map] at hw
  cases hd : ds[i]? with
  | none => rw [hd] at hw; cases hw
  | some d =>
    rw [hd] at hw
    cases hw
    obtain ⟨v, hv, rv⟩ := r.get hd
    refine ⟨⟨vs, v, h', hv⟩, fun x H' ⟨eH, y⟩ => ?_⟩
    subst eH
    have := y vs h'
    rw [hv] at this
    cases this
    exact ⟨G, Ex.refl _, rel, rv.mono e⟩
theorem sim_cell {K : Fg} {mg : Str → Option Value} {G0 : Hp} {α0 : Al} {a : Addr} {k : Nat} {ws : List W} (ha : α0.as[k]? = some a) : Sim K mg (Itl K a) G0 α0 ws fun O => O[k]? = some (.lst ws) := by
  intro i G α O H e p rel ok
  obtain ⟨_, vs, hH, r⟩ := rel.at_ k a _ (pre_get' p ha) ok
  have h' : SqL K H a vs := SqL.of hH
  refine ⟨fun hi => ⟨vs, h', by rw [r.len]; exact hi⟩, fun w hw => ?_⟩
  obtain ⟨v, hv, rv⟩ := r.get hw
  refine ⟨⟨vs, v, h', hv⟩, fun x H' ⟨eH, y⟩ => ?_⟩
  subst eH
  have := y vs h'
  rw [hv] at this
  cases this
  exact ⟨G, Ex.refl _, rel, rv⟩
theorem di_seq {tg l : Expr} (hl : DE X Wx l wa) : DIt X Wx tg l (dSeqI wa) := by
  refine pi_imp (fun σ H R ⟨G, α, Γ, O, S, xe, sl, rel, h, xp, q⟩ => ?_) (pi_seq hl)
  refine ⟨G, α, Γ, O, _, xe, sl, rel, h, fun x O1 h1 v G1 α1 H1 e1 p1 rel1 r1 => ?_, xp⟩
  dsimp only at h1
  split at h1
  · next ds =>
    cases r1 with
    | lst hs ha => exact .inl ⟨_, rfl, ⟨_, SqL.of (rel1.ex _ _ hs)⟩, q _ _ _ h1 _ _ _ _ e1 p1 rel1 (sim_list (SqL.of hs) ha)⟩
  · next ds =>
    cases r1 with
    | tup hs td ha => exact .inr ⟨_, rfl, ⟨_, rel1.ex.sqT hs⟩, q _ _ _ h1 _ _ _ _ e1 p1 rel1 (sim_tup hs ha)⟩
  · next k =>
    split at h1
    · next ws ek =>
      obtain ⟨a, ha, rfl⟩ := r1
      obtain ⟨_, vs, hH, r⟩ := rel1.at_ k a _ ha ek
      exact .inl ⟨_, rfl, ⟨_, SqL.of hH⟩, q _ _ _ h1 _ _ _ _ e1 p1 rel1 (sim_cell ha)⟩
    · exact h1.elim
  · exact h1.elim
/-- lo, lo + 1, .. -/
def rgW (lo : Int) : Nat → List W
  | 0 => []
  | n + 1 => .d (.int lo) :: rgW (lo + 1) n
theorem rgW_len : ∀ (lo : Int) (n : Nat), (rgW lo n).length = n
  | _, 0 => rfl
  | lo, n + 1 => by show (rgW (lo + 1) n).length + 1 = n + 1; rw [rgW_len]
theorem rgW_get : ∀ (lo : Int) (n i : Nat), i < n → (rgW lo n)[i]? = some (.d (.int (lo + (i : Nat))))
  | lo, 0, i, h => by omega
  | lo, n + 1, 0, h => by show some _ = _; simp
  | lo, n + 1, i + 1, h => by
    show (rgW (lo + 1) n)[i]? = _
    rw [rgW_get (lo + 1) n i (by omega)]
    congr 3
    omega
theorem sim_rng {K : Fg} {mg : Str → Option Value} {G0 : Hp} {α0 : Al} {lo : Int} {n : Nat} : Sim K mg (Itr lo n) G0 α0 (rgW lo n) fun _ => True := by
  intro i G α O H e p rel _
  refine ⟨fun hi => by rw [rgW_len] at hi; exact hi, fun w hw => ?_⟩
  have hi : i < n := by
    have := (List.getElem?_eq_some_iff.mp hw).1
    rwa [rgW_len] at this
  rw [rgW_get lo n i hi] at hw
  cases hw
  refine ⟨hi, fun x H' ⟨eH, y⟩ => ?_⟩
  subst eH
  subst y
  exact ⟨G, Ex.refl _, rel, .int _⟩
def dRng1 (w : DA) : DI := fun Γ O S xe => w Γ O (fun vs O1 => match vs with
  | [.d (.int j)] => j < 4611686018427387904 ∧ -4611686018427387904 ≤ j ∧ S (rgW 0 j.toNat) (fun _ => True) O1
  | _ => False) xe
theorem di_rng1 {tg : Expr} {ws : DA} {p pos : Pos} (hm : X.mg "range" = none) (ha : DAs X Wx [a] ws) (hg : Gl X "range" := by rfl) (hs : starEach [a] X.env = [(false, eval a X.env)] := by rfl) : DIt X Wx tg (.Call (.Name "range" p) [a] [] pos) (dRng1 ws) := by
  refine pi_imp (fun σ H R ⟨G, α, Γ, O, S, xe, sl, rel, h, xp, q⟩ => ?_) (pi_range1 hg hm ha hs)
  refine ⟨G, α, Γ, O, _, xe, sl, rel, h, fun x O1 h1 v G1 α1 H1 e1 p1 rel1 r1 => ?_, xp⟩
  dsimp only at h1
  split at h1
  · next j =>
    cases r1 with
    | cons ra rn =>
      cases rn
      cases ra
      exact ⟨j, rfl, h1.2.1, h1.1, q _ _ _ h1.2.2 _ _ _ _ e1 p1 rel1 sim_rng⟩
  · exact h1.elim
/-! #### for -/
def forGo (ok : Oh → Prop) (t : Tg) (body : DSt) (D : DEnds) (xe : DX) : List W → Gm → Oh → Prop
  | [], Γ, O => ok O ∧ D.nx Γ O
  | x :: r, Γ, O => ok O ∧ t.put x Γ fun Γ1 => body ⟨forGo ok t body D xe r, D.rt, D.nx, forGo ok t body D xe r⟩ xe Γ1 O
def dFor (w : DI) (t : Tg) (body : DSt) : DSt := fun D xe Γ O => w Γ O (fun xs ok O1 => forGo ok t body D xe xs Γ O1) xe
theorem ds_for (g : Good X Wx k) {tg it : Expr} {wi : DI} {body : List Stmt} {tb : DSt} (t : Tg) (hi : DIt X Wx tg it wi) (hg : PG X tg (t.g X.K)) (hb : DSs X Wx body tb) (hs : ∀ x, foldedSetIterable it X.env x = pure x := by intro _; rfl) :
    DS X Wx (.For tg it body [] pos) (dFor wi t tb) := by
  refine ps_imp (fun D σ H ⟨G, α, Γ, O, DD, xe, sl, rel, h, p, xp⟩ => ?_) (ps_for g.ps g.calm hi hg hb hs)
  refine ⟨G, α, Γ, O, _, xe, sl, rel, h, xp, fun xs ok O1 h1 J G1 α1 H1 e1 p1 rel1 sim => ?_⟩
  refine ⟨fun i m σ H => m = xs.length - i ∧ i ≤ xs.length ∧ ∃ G2 α2 Γ2 O2, Ex G1 G2 ∧ Pre α1 α2 ∧ Sl X.K G2 α2 Γ2 σ ∧ Rel X.K X.mg G2 α2 O2 H ∧ forGo ok t tb DD xe (xs.drop i) Γ2 O2,
    ⟨xs.length, by simp, Nat.zero_le _, G1, α1, Γ, O1, Ex.refl _, Pre.refl _, sl.mono e1 p1, rel1, h1⟩, ?_⟩
  rintro i m σ2 H2 ⟨rfl, hi, G2, α2, Γ2, O2, e2, p2, sl2, rel2, h2⟩
  by_cases hl : i < xs.length
  · rw [List.drop_eq_getElem_cons hl] at h2
    obtain ⟨ok2, h2⟩ := h2
    obtain ⟨hgo, hy⟩ := (sim i G2 α2 O2 H2 e2 p2.1 rel2 ok2).2 xs[i] (List.getElem?_eq_getElem hl)
    refine .inr ⟨hgo, fun σ3 H3 => ∃ G3 α3 Γ3 O3, Ex G1 G3 ∧ Pre α1 α3 ∧ Sl X.K G3 α3 Γ3 σ3 ∧ Rel X.K X.mg G3 α3 O3 H3 ∧ forGo ok t tb DD xe (xs.drop (i + 1)) Γ3 O3,
      fun σ' H' hN => ⟨xs.length - (i + 1), by omega, rfl, hl, hN⟩, fun x H3 y => ?_⟩
    obtain ⟨G3, e3, rel3, rv3⟩ := hy x H3 y
    refine Tg.put_ok t rel3 (sl2.mono e3 (Pre.refl _)) rv3 h2 fun Γ4 σ4 h4 sl4 _ => ?_
    refine ⟨G3, α2, Γ4, O2, _, xe, sl4, rel3, h4, ⟨fun Γ5 O5 h5 σ5 G5 α5 H5 e5 p5 rel5 sl5 => ?_, (p.rt.mono (e1.trans (e2.trans e3)) (p1.trans p2)), p.nx.mono (e1.trans (e2.trans e3)) (p1.trans p2), fun Γ5 O5 h5 σ5 G5 α5 H5 e5 p5 rel5 sl5 => ?_⟩, xp.mono (e1.trans (e2.trans e3)) (p1.trans p2)⟩
    · exact ⟨G5, α5, Γ5, O5, e2.trans (e3.trans e5), p2.trans p5, sl5, rel5, h5⟩
    · exact ⟨G5, α5, Γ5, O5, e2.trans (e3.trans e5), p2.trans p5, sl5, rel5, h5⟩
  · have ei : i = xs.length := by omega
    subst ei
    rw [List.drop_length] at h2
    exact .inl ⟨(sim _ G2 α2 O2 H2 e2 p2.1 rel2 h2.1).1 (Nat.le_refl _), p.nx _ _ h2.2 _ _ _ _ (e1.trans e2) (p1.trans p2) rel2 sl2⟩
/-! #### while -/
end
end Dl
namespace Dl
open PySem PySem.Spec PyProof.Rows L2
variable [TabsC]
section
variable {X : Cx} {Wx : WX} {k : Nat} {a b c e : Expr} {wa wb wc we : DEx} {pos p2 : Pos} {t u : DSt} {st : Stmt} {rest : List Stmt}
/-! #### list comprehensions -/
abbrev W0 : WX := fun _ _ _ _ => False
abbrev X0 : DX := fun _ _ _ => False
theorem xp0 {K : Fg} {mg : Str → Option Value} {G : Hp} {α : Al} {Wx : WX} : XPost K mg G α X0 Wx := fun _ _ _ z => z.elim
theorem Good.blk {s : Shared} {H : Hp} {scope : Scope} {cenv : Env} {fp : List Addr} (g : Good X Wx k) : Good (X.blk s H scope cenv fp) W0 k := ⟨takesN0, PassesOwn.never, g.rm, g.calm, g.nd⟩
def dYes : DT := fun _ O R _ => R true O
/-- the slots of the comprehension's own names forgotten -/
def wipeG (Γ : Gm) : List Nat → Gm
  | [] => Γ
  | v :: vs => (wipeG Γ vs).set v none
theorem sl_wipe {K : Fg} {G : Hp} {α : Al} {Γ : Gm} {σ : L2.St} (h : Sl K G α Γ σ) : ∀ own : List Nat, Sl K G α (wipeG Γ own) (wipe σ own)
  | [] => h
  | v :: vs => (sl_wipe h vs).forget v none
theorem wipe_wipe (σ : L2.St) : ∀ own : List Nat, wipe (wipe σ own) own = wipe σ own
  | [] => rfl
  | v :: vs => by
    show wipe ((wipe σ vs).set v none) (v :: vs) = _
    rw [wipe_set (v := none) (List.mem_cons_self)]
    show (wipe (wipe σ vs) vs).set v none = (wipe σ vs).set v none
    rw [wipe_wipe σ vs]
def lcGo (ok : Oh → Prop) (t : Tg) (tt : DT) (we : DEx) (Γ : Gm) (fin : List PyData → Oh → Prop) : List W → List PyData → Oh → Prop
  | [], acc, O => ok O ∧ fin acc O
  | x :: r, acc, O => ok O ∧ t.put x Γ fun Γ1 => tt Γ1 O (fun b O1 => if b = true then we Γ1 O1 (fun y O2 => match y with
      | .d z => acc.length < 1000000 ∧ lcGo ok t tt we Γ fin r (acc ++ [z]) O2
      | _ => False) X0 else lcGo ok t tt we Γ fin r acc O1) X0
/-- [e for t in w if tt], a list that never changes -/
def dLc (w : DI) (t : Tg) (tt : DT) (we : DEx) (own : List Nat) : DEx := fun Γ O R xe => w Γ O (fun xs ok O1 => lcGo ok t tt we (wipeG Γ own) (fun acc O2 => R (.d (.list acc)) O2) xs [] O1) xe
def DTs (X : Cx) (ifs : List Expr) (tt : DT) : Prop := PTs X ifs (liftT X.K X.mg W0 tt)
theorem dts_nil : DTs X [] dYes := by
  refine ⟨fun pins s σ H Q I h => ?_⟩
  obtain ⟨G, α, Γ, O, R, xe, sl, rel, h, p, xp⟩ := h
  exact (pts_nil (X := X)).run pins s σ H Q I (p.here h rel)
theorem dts_one {c : Expr} {t : DT} (h : DTt X W0 c t) : DTs X [c] t := pts_one h
theorem lift_lcG {K : Fg} {mg : Str → Option Value} {w : DI} {t : Tg} {tt : DT} {we : DEx} {own : List Nat} (hs : t.sub own = true) {σ : L2.St} {H : Hp} {Q : VK} {G : Hp} {α : Al} {Γ : Gm} {O : Oh} {xe : DX} {fin : List PyData → Oh → Prop}
    (sl : Sl K G α Γ σ) (rel : Rel K mg G α O H) (xp : XPost K mg G α xe Wx) (h : w Γ O (fun xs ok O1 => lcGo ok t tt we (wipeG Γ own) fin xs [] O1) xe)
    (hq : ∀ acc O2 G2 as2 H2 vs D, Ex G G2 → α.as <+: as2 → RpL K G2 vs acc → Rel K mg G2 ⟨as2, (D, .lst vs) :: α.hid⟩ O2 H2 → (∀ q ∈ α.hid, q.1 ≠ D) → fin acc O2 → Q (.ref D) H2) :
    tLc (liftI K mg Wx w) (t.g K) (liftT K mg W0 tt) (liftE K mg W0 we) own σ H Q := by
  refine ⟨G, α, Γ, O, _, xe, sl, rel, h, xp, fun xs ok O1 h1 J G1 α1 H1 e1 p1 rel1 sim D hD => ?_⟩
  have slw : Sl K G1 α1 (wipeG Γ own) (wipe σ own) := sl_wipe (sl.mono e1 p1) own
  have hη : ∀ q ∈ α1.hid, q.1 ≠ D := fun q hq => ne_of_none (rel1.hd q hq).1 hD
  -- the list that is made is hidden at D
  refine ⟨fun i m H => m = xs.length - i ∧ i ≤ xs.length ∧ ∃ G2 as2 O2 acc vs, Ex G1 G2 ∧ α1.as <+: as2 ∧ RpL K G2 vs acc ∧ Rel K mg G2 ⟨as2, (D, .lst vs) :: α1.hid⟩ O2 H ∧ lcGo ok t tt we (wipeG Γ own) fin (xs.drop i) acc O2,
    ⟨xs.length, by simp, Nat.zero_le _, G1, α1.as, O1, [], [], Ex.refl _, List.prefix_refl _, .nil, rel1.hidden hD ⟨(fun b z => by cases z), (fun b z => by cases z)⟩, h1⟩, ?_⟩
  rintro i m H2 ⟨rfl, hi, G2, as2, O2, acc, vs, e2, p2, racc, rel2, h2⟩
  by_cases hl : i < xs.length
  · rw [List.drop_eq_getElem_cons hl] at h2
    obtain ⟨ok2, h2⟩ := h2
    obtain ⟨hgo, hy⟩ := (sim i G2 _ O2 H2 e2 p2 rel2 ok2).2 xs[i] (List.getElem?_eq_getElem hl)
    refine .inr ⟨hgo, fun H3 => ∃ G3 as3 O3 acc vs, Ex G1 G3 ∧ α1.as <+: as3 ∧ RpL K G3 vs acc ∧ Rel K mg G3 ⟨as3, (D, .lst vs) :: α1.hid⟩ O3 H3 ∧ lcGo ok t tt we (wipeG Γ own) fin (xs.drop (i + 1)) acc O3,
      fun H' hN => ⟨xs.length - (i + 1), by omega, rfl, hl, hN⟩, fun x H3 y => ?_⟩
    obtain ⟨G3, e3, rel3, rv3⟩ := hy x H3 y
    refine Tg.put_ok t rel3 (slw.mono' (α' := ⟨as2, (D, .lst vs) :: α1.hid⟩) (e2.trans e3) p2) rv3 h2 fun Γ4 σ4 h4 sl4 w4 => ?_
    refine ⟨(w4 own hs).trans (wipe_wipe σ own), ⟨G3, _, Γ4, O2, _, X0, sl4, rel3, h4, fun b O5 h5 G5 α5 H5 e5 p5 rel5 => ?_, xp0⟩⟩
    obtain ⟨as5, hid5⟩ := α5
    obtain ⟨p5a, p5b⟩ := p5
    have p5b : hid5 = (D, .lst vs) :: α1.hid := p5b
    subst p5b
    dsimp only at h5 ⊢
    split at h5
    · next cb =>
      rw [if_pos cb]
      refine ⟨G5, _, Γ4, O5, _, X0, sl4.mono' (α' := ⟨as5, (D, .lst vs) :: α1.hid⟩) e5 p5a, rel5, h5, fun y O6 h6 v6 G6 α6 H6 e6 p6 rel6 r6 => ?_, xp0⟩
      obtain ⟨as6, hid6⟩ := α6
      obtain ⟨p6a, p6b⟩ := p6
      have p6b : hid6 = (D, .lst vs) :: α1.hid := p6b
      subst p6b
      try dsimp only at h6 ⊢
      split at h6
      · next z =>
        have hD6 : H6 D = some (.lst vs) := (rel6.hd (D, .lst vs) List.mem_cons_self).1
        have racc6 : RpL K G6 vs acc := racc.mono (e3.trans (e5.trans e6))
        refine ⟨vs, hD6, by rw [racc6.length]; exact szlt h6.1, G6, as6, O6, acc ++ [z], vs ++ [v6], e2.trans (e3.trans (e5.trans e6)), p2.trans (p5a.trans p6a), racc6.append (.cons r6 .nil), ?_, h6.2⟩
        exact Rel.rehide (α := ⟨as6, []⟩) rel6 ⟨(fun b z => by cases z), (fun b z => by cases z)⟩ hη
      · exact h6.elim
    · next cb =>
      rw [if_neg cb]
      exact ⟨G5, as5, O5, acc, vs, e2.trans (e3.trans e5), p2.trans p5a, racc.mono (e3.trans e5), rel5, h5⟩
  · have ei : i = xs.length := by omega
    subst ei
    rw [List.drop_length] at h2
    refine .inl ⟨(sim _ G2 _ O2 H2 e2 p2 rel2 h2.1).1 (Nat.le_refl _), ?_⟩
    rw [p1.2] at rel2 hη
    exact hq _ _ _ _ _ _ _ (e1.trans e2) (p1.1.trans p2) racc rel2 hη h2.2
theorem lift_lc {K : Fg} {mg : Str → Option Value} {w : DI} {t : Tg} {tt : DT} {we : DEx} {own : List Nat} (hs : t.sub own = true) {σ : L2.St} {H : Hp} {Q : VK} (h : liftE K mg Wx (dLc w t tt we own) σ H Q) :
    tLc (liftI K mg Wx w) (t.g K) (liftT K mg W0 tt) (liftE K mg W0 we) own σ H Q := by
  obtain ⟨G, α, Γ, O, R, xe, sl, rel, h, p, xp⟩ := h
  refine lift_lcG hs sl rel xp h fun acc O2 G2 as2 H2 vs D e2 p2 racc rel2 hη hf => ?_
  have g2 : G2 D = none := (rel2.hd (D, .lst vs) List.mem_cons_self).2.1
  have rel3 := Rel.show (α := ⟨as2, []⟩) rel2 hη
  exact p _ _ hf _ _ ⟨as2, α.hid⟩ _ (e2.trans (Ex.new g2)) ⟨p2, rfl⟩ rel3 (.lst upd_same (racc.mono (Ex.new g2)))
theorem de_lc (g : Good X Wx k) {elt tg iter : Expr} {ifs : List Expr} {scope : Scope} {own : List (Str × Nat)} {w : DI} {tt : DT} (t : Tg) (hs' : t.sub (own.map (·.2)) = true) (hi : DIt X Wx tg iter w) (ok : BlkOk X.N X.env.scope scope own)
    (hg : ∀ (s : Shared) (H : Hp) (C : Addr) (cl : List (Str × Addr)) (fp : List Addr), PG (X.blk s H scope (compEnvC scope cl C X.env) fp) tg (t.g X.K))
    (ht : ∀ (s : Shared) (H : Hp) (C : Addr) (cl : List (Str × Addr)) (fp : List Addr), Good (X.blk s H scope (compEnvC scope cl C X.env) fp) W0 k → DTs (X.blk s H scope (compEnvC scope cl C X.env) fp) ifs tt)
    (he : ∀ (s : Shared) (H : Hp) (C : Addr) (cl : List (Str × Addr)) (fp : List Addr), Good (X.blk s H scope (compEnvC scope cl C X.env) fp) W0 k → DE (X.blk s H scope (compEnvC scope cl C X.env) fp) W0 elt we) (hs : ∀ x, foldedSetIterable iter X.env x = pure x := by intro _; rfl) :
    DE X Wx (.ListComp elt [⟨tg, iter, ifs, 0⟩] scope pos) (dLc w t tt we (own.map (·.2))) :=
  pe_imp (fun σ H Q h => lift_lc hs' h) (pe_lc g.calm g.nd hi ok hg (fun s H C cl fp => ht s H C cl fp g.blk) (fun s H C cl fp => he s H C cl fp g.blk) hs)
theorem ds_setLc (g : Good X Wx k) {i : Nat} {y : Str} {py spos : Pos} {elt tg iter : Expr} {ifs : List Expr} {scope : Scope} {own : List (Str × Nat)} {w : DI} {tt : DT} (hy : X.N[i]? = some y) (hyl : X.env.scope.names.lookup y = some .local)
    (hsw : swapsWith (.ListComp elt [⟨tg, iter, ifs, 0⟩] scope pos) (some (.Name y py)) spos.line X.env = pure true) (t : Tg) (hs' : t.sub (own.map (·.2)) = true) (hi : DIt X Wx tg iter w) (ok : BlkOk X.N X.env.scope scope own)
    (hg : ∀ (s : Shared) (H : Hp) (C : Addr) (cl : List (Str × Addr)) (fp : List Addr), PG (X.blk s H scope (compEnvC scope cl C X.env) fp) tg (t.g X.K))
    (ht : ∀ (s : Shared) (H : Hp) (C : Addr) (cl : List (Str × Addr)) (fp : List Addr), Good (X.blk s H scope (compEnvC scope cl C X.env) fp) W0 k → DTs (X.blk s H scope (compEnvC scope cl C X.env) fp) ifs tt)
    (he : ∀ (s : Shared) (H : Hp) (C : Addr) (cl : List (Str × Addr)) (fp : List Addr), Good (X.blk s H scope (compEnvC scope cl C X.env) fp) W0 k → DE (X.blk s H scope (compEnvC scope cl C X.env) fp) W0 elt we) (hs : ∀ x, foldedSetIterable iter X.env x = pure x := by intro _; rfl) :
    DS X Wx (.Assign [.Name y py] (.ListComp elt [⟨tg, iter, ifs, 0⟩] scope pos) spos) (dAsg (dLc w t tt we (own.map (·.2))) (.nm i)) := by
  refine ps_imp (fun D σ H h => ?_) (ps_setLc (tt := liftT X.K X.mg W0 tt) (te := liftE X.K X.mg W0 we) g.calm g.nd hy hyl hsw hi ok hg (fun s H C cl fp => ht s H C cl fp g.blk) (fun s H C cl fp => he s H C cl fp g.blk) hs)
  exact lift_lc hs' (lift_asg h)
/-! #### calls of defs -/
def dCall (f : DFn) (ws : DA) : DEx := fun Γ O R xe => ws Γ O (fun vs O1 => f vs O1 R fun ex O2 => xe ex Γ O2) xe
variable {f : Addr} {fd : FuncData} {ps : List Str} {df : DFn} {x : Str} {p : Pos} {es : List Expr} {ws : DA}
/-! #### a def -/
/-- the cells that came beside are forgotten: nothing came, or what stands is closed -/
def Fin (n : Nat) (O' : Oh) (k : Oh → Prop) : Prop := (O'.length = n ∧ k O') ∨ (Clo n (O'.take n) = true ∧ k (O'.take n))
/-- the answer: a cell is told as a list that never changes -/
def dAns (n : Nat) (R : DK) (r : W) (O' : Oh) : Prop := match r with
  | .c j => if j < n then Fin n O' (R (.c j)) else match O'[j]? with
    | some (.lst ws) => match datas ws with
      | some ds => Fin n O' (R (.d (.list ds)))
      | none => False
    | _ => False
  | .t xs => (W.t xs).lt n = true ∧ Fin n O' (R (.t xs))
  | _ => Fin n O' (R r)
def startG (N : Nat) (ws : List W) : Gm := ws.map some ++ List.replicate (N - ws.length) none
def dDef (N n : Nat) (b : DSt) : DFn := fun ws O R xe => ws.length = n ∧ (Clo O.length O = true → b ⟨fun _ O' => Fin O.length O' (R (.d .none)), dAns O.length R, fun _ _ => False, fun _ _ => False⟩ (fun ex _ O' => Fin O.length O' (xe ex)) (startG N ws) O)
/-- .. a new cell is the answer -/
def dAnsC (n : Nat) (R : DK) (r : W) (O' : Oh) : Prop := match r with
  | .c j => n ≤ j ∧ Clo n (O'.take n) = true ∧ ∃ c, O'[j]? = some c ∧ c.lt n = true ∧ R (.c n) (O'.take n ++ [c])
  | .t xs => (W.t xs).lt n = true ∧ Fin n O' (R (.t xs))
  | _ => Fin n O' (R r)
def dDefC (N n : Nat) (b : DSt) : DFn := fun ws O R xe => ws.length = n ∧ (Clo O.length O = true → b ⟨fun _ O' => Fin O.length O' (R (.d .none)), dAnsC O.length R, fun _ _ => False, fun _ _ => False⟩ (fun ex _ O' => Fin O.length O' (xe ex)) (startG N ws) O)
theorem sl_start {K : Fg} {G : Hp} {α : Al} {vs : List V} {ws : List W} {N : List Str} (r : RvL K G α vs ws) : Sl K G α (startG N.length ws) (L2.start N vs) := by
  have hl := r.len
  refine ⟨?_, fun i w h => ?_⟩
  · unfold startG L2.start
    rw [List.length_append, List.length_append, List.length_map, List.length_map, List.length_replicate, List.length_replicate, hl]
  · unfold startG at h
    unfold L2.start
    by_cases hi : i < ws.length
    · rw [List.getElem?_append_left (by rw [List.length_map]; exact hi), List.getElem?_map] at h
      cases hw : ws[i]? with
      | none => rw [hw] at h; cases h
      | some w' =>
        rw [hw] at h
        cases h
        obtain ⟨v, hv, rv⟩ := r.get hw
        refine ⟨v, ?_, rv⟩
        rw [List.getElem?_append_left (by rw [List.length_map]; omega), List.getElem?_map, hv]
        rfl
    · rw [List.getElem?_append_right (by rw [List.length_map]; omega)] at h
      have := List.getElem?_eq_some_iff.mp h
      obtain ⟨l, e⟩ := this
      rw [List.getElem_replicate] at e
      cases e
theorem fin_ok {K : Fg} {mg : Str → Option Value} {G' : Hp} {α α' : Al} {O O' : Oh} {H' : Hp} {k : Oh → Prop} (rel : α.as.length = O.length) (p : Pre α α') (rel' : Rel K mg G' α' O' H') (h : Fin O.length O' k) :
    ∃ α'' O'', Pre α α'' ∧ Rel K mg G' α'' O'' H' ∧ k O'' ∧ (∀ v r, Rv K G' α' v r → r.lt O.length = true → Rv K G' α'' v r) := by
  rcases h with ⟨_, h⟩ | ⟨c, h⟩
  · exact ⟨α', O', p, rel', h, fun _ _ r _ => r⟩
  · refine ⟨α'.cut O.length, _, ⟨?_, p.2⟩, rel'.cut c, h, fun v r rv l => rv.cut l⟩
    obtain ⟨t, ht⟩ := p.1
    show α.as <+: α'.as.take O.length
    rw [← ht, ← rel, List.take_left]
    exact List.prefix_refl _
/-- how a def's body gives its promise -/
def MkFn (P : Program) (w : World) (K : Fg) (mg : Str → Option Value) (base : Heap) (CX : CXT) (qual : Str) (st : Stmt) (N ps : List Str) (k : Nat) (f : Addr) (fd : FuncData) : Prop :=
  ∀ (sp : Sp), (∀ vs H Q E, sp vs H Q E → vs.length = ps.length) →
    (∀ (cdv : Value) (A : Around) (outer : List Env) (s : Shared) (H : Hp) (vs : List V) (Q : VK) (E : XK), Room k (A.deeper (envOfC qual (defScope st) s.heap.objs.size f cdv)) → sp vs H Q E →
      ∃ t, PSs (cxOf CX P w K mg base N qual (defScope st) f cdv A outer s H E) (defBody st) t ∧ t { nx := fun _ H' => Q .non H', rt := Q } (L2.start N vs) H) → FnOk P w K mg base CX (k + 1) f fd ps sp
theorem Fun.mk {CX : CXT} {P : Program} {w : World} {K : Fg} {mg : Str → Option Value} {base : Heap} {x qual : Str} {st : Stmt} {f : Addr} {fd : FuncData} {N ps : List Str} {k : Nat} (F : Fun K x qual st f fd) (S : FnScope N ps (defScope st)) : MkFn P w K mg base CX qual st N ps k f fd := by
  intro sp len hbody
  obtain ⟨oc, od, kV, doc, pm, an, cdv, ct, osl, rfl, lk, hcd⟩ := F.ex
  exact fn_of lk hcd S len fun A outer s H vs Q E hr hsp => hbody cdv A outer s H vs Q E hr hsp
theorem def_in {K : Fg} {mg : Str → Option Value} {N ps : List Str} {b : DSt} {vs : List V} {H : Hp} {Q : VK} {E : XK} (h : liftF K mg (dDef N.length ps.length b) vs H Q E) :
    liftS K mg (fun cls d _ H => E cls d H) b { nx := fun _ H' => Q .non H', rt := Q } (L2.start N vs) H := by
  obtain ⟨G, α, ws, O, R, xe, r, rel, ⟨hl, hw⟩, p, xp⟩ := h
  refine ⟨G, α, startG N.length ws, O, _, _, sl_start r, rel, hw rel.clo, ⟨?_, ?_, fun _ _ z => z.elim, fun _ _ z => z.elim⟩, ?_⟩
  · intro Γ' O' h' σ' G' α' H' e' p' rel' _
    obtain ⟨α'', O'', p'', rel'', q, _⟩ := fin_ok rel.len p' rel' h'
    exact p _ _ q _ _ _ _ e' p'' rel'' .non
  · intro r' O' h' v G' α' H' e' p' rel' rv'
    have h' : dAns O.length R r' O' := h'
    have rel' : Rel K mg G' α' O' H' := rel'
    have rv' : Rv K G' α' v r' := rv'
    show Q v H'
    cases r' with
    | d x =>
      obtain ⟨α'', O'', p'', rel'', q, c⟩ := fin_ok rel.len p' rel' (show Fin O.length O' (R (.d x)) from h')
      exact p _ _ q _ _ _ _ e' p'' rel'' (c _ _ rv' rfl)
    | k x =>
      obtain ⟨α'', O'', p'', rel'', q, c⟩ := fin_ok rel.len p' rel' (show Fin O.length O' (R (.k x)) from h')
      exact p _ _ q _ _ _ _ e' p'' rel'' (c _ _ rv' rfl)
    | p x =>
      obtain ⟨α'', O'', p'', rel'', q, c⟩ := fin_ok rel.len p' rel' (show Fin O.length O' (R (.p x)) from h')
      exact p _ _ q _ _ _ _ e' p'' rel'' (c _ _ rv' rfl)
    | q x y =>
      obtain ⟨α'', O'', p'', rel'', q, c⟩ := fin_ok rel.len p' rel' (show Fin O.length O' (R (.q x y)) from h')
      exact p _ _ q _ _ _ _ e' p'' rel'' (c _ _ rv' rfl)
    | e x y =>
      obtain ⟨α'', O'', p'', rel'', q, c⟩ := fin_ok rel.len p' rel' (show Fin O.length O' (R (.e x y)) from h')
      exact p _ _ q _ _ _ _ e' p'' rel'' (c _ _ rv' rfl)
    | o x y z =>
      obtain ⟨α'', O'', p'', rel'', q, c⟩ := fin_ok rel.len p' rel' (show Fin O.length O' (R (.o x y z)) from h')
      exact p _ _ q _ _ _ _ e' p'' rel'' (c _ _ rv' rfl)
    | t x =>
      have h' : (W.t x).lt O.length = true ∧ Fin O.length O' (R (.t x)) := h'
      obtain ⟨α'', O'', p'', rel'', q, c⟩ := fin_ok rel.len p' rel' h'.2
      exact p _ _ q _ _ _ _ e' p'' rel'' (c _ _ rv' h'.1)
    | c j =>
      unfold dAns at h'
      dsimp only at h'
      split at h'
      · next hj =>
        obtain ⟨α'', O'', p'', rel'', q, c⟩ := fin_ok rel.len p' rel' h'
        exact p _ _ q _ _ _ _ e' p'' rel'' (c _ _ rv' (decide_eq_true hj))
      · next hj =>
        split at h'
        · next ws' ej =>
          split at h'
          · next ds ed =>
            obtain ⟨a, ha, rfl⟩ := rv'
            obtain ⟨g0, vs', hH, rl⟩ := rel'.at_ j a _ ha ej
            have rel2 := rel'.freeze ha ej hH g0
            rw [datas_eq ed] at rl
            have rd := rl.toD
            have h2 : Fin O.length (O'.set j .gone) (R (.d (.list ds))) := by
              have hjl : j < O'.length := (List.getElem?_eq_some_iff.mp ej).1
              rcases h' with ⟨z, _⟩ | ⟨z1, z2⟩
              · omega
              · refine .inr ?_
                rw [List.take_set_of_le (by omega)]
                exact ⟨z1, z2⟩
            obtain ⟨α'', O'', p'', rel'', q, c⟩ := fin_ok rel.len p' rel2 h2
            have ee : Ex G' (upd G' a (.lst vs')) := Ex.new g0
            exact p _ _ q _ _ _ _ (e'.trans ee) p'' rel'' (.lst upd_same (rd.mono ee))
          · exact h'.elim
        · exact h'.elim
  · intro ex Γ' O' h' cls d σ' G' α' H' e' p' rel' _ xo
    obtain ⟨α'', O'', p'', rel'', q, _⟩ := fin_ok rel.len p' rel' h'
    exact xp _ _ q _ _ _ _ _ e' p'' rel'' xo
theorem ok_defG {CX : CXT} {P : Program} {w : World} {K : Fg} {mg : Str → Option Value} {base : Heap} {qual : Str} {st : Stmt} {f : Addr} {fd : FuncData} {N ps : List Str} {k : Nat} {b : DSt} (mk : MkFn P w K mg base CX qual st N ps k f fd)
    (hb : ∀ (cdv : Value) (A : Around) (outer : List Env) (s : Shared) (H : Hp) (E : XK), Room k (A.deeper (envOfC qual (defScope st) s.heap.objs.size f cdv)) →
      DSs (cxOf CX P w K mg base N qual (defScope st) f cdv A outer s H E) (fun cls d _ H => E cls d H) (defBody st) b) :
    FnOk P w K mg base CX (k + 1) f fd ps (liftF K mg (dDef N.length ps.length b)) := by
  refine mk _ (fun vs H Q E h => ?_) (fun cdv A outer s H vs Q E hr h => ?_)
  · obtain ⟨G, α, ws, O, R, xe, r, rel, ⟨hl, _⟩, _⟩ := h
    rw [r.len, hl]
  · exact ⟨_, hb cdv A outer s H E hr, def_in h⟩
theorem ok_def {P : Program} {w : World} {K : Fg} {mg : Str → Option Value} {base : Heap} {x qual : Str} {st : Stmt} {f : Addr} {fd : FuncData} {N ps : List Str} {k : Nat} {b : DSt} (F : Fun K x qual st f fd) (S : FnScope N ps (defScope st))
    (hb : ∀ (cdv : Value) (A : Around) (outer : List Env) (s : Shared) (H : Hp) (E : XK), Good (cxOf (L2N.CX P w) P w K mg base N qual (defScope st) f cdv A outer s H E) (fun cls d _ H => E cls d H) k →
      DSs (cxOf (L2N.CX P w) P w K mg base N qual (defScope st) f cdv A outer s H E) (fun cls d _ H => E cls d H) (defBody st) b) :
    FnOk P w K mg base (L2N.CX P w) (k + 1) f fd ps (liftF K mg (dDef N.length ps.length b)) :=
  ok_defG (Fun.mk F S) fun cdv A outer s H E hr => hb cdv A outer s H E ⟨L2N.takes_of rfl rfl rfl rfl, passes_of rfl, hr, rfl, S.nd⟩
theorem ok_defZ {P : Program} {w : World} {K : Fg} {mg : Str → Option Value} {base : Heap} {x qual : Str} {st : Stmt} {f : Addr} {fd : FuncData} {N ps : List Str} {k : Nat} {b : DSt} (F : Fun K x qual st f fd) (S : FnScope N ps (defScope st))
    (hb : ∀ (cdv : Value) (A : Around) (outer : List Env) (s : Shared) (H : Hp) (E : XK), Good (cxOf (LM.CX true P w) P w K mg base N qual (defScope st) f cdv A outer s H E) (fun cls d _ H => E cls d H) k → LM.Takes true (cxOf (LM.CX true P w) P w K mg base N qual (defScope st) f cdv A outer s H E) (fun cls d _ H => E cls d H) →
      DSs (cxOf (LM.CX true P w) P w K mg base N qual (defScope st) f cdv A outer s H E) (fun cls d _ H => E cls d H) (defBody st) b) :
    FnOk P w K mg base (LM.CX true P w) (k + 1) f fd ps (liftF K mg (dDef N.length ps.length b)) :=
  ok_defG (Fun.mk F S) fun cdv A outer s H E hr => hb cdv A outer s H E ⟨LM.tn_of (LM.takes_of rfl rfl rfl rfl), passes_of rfl, hr, rfl, S.nd⟩ (LM.takes_of rfl rfl rfl rfl)
/-- of the cells that came, one stays -/
theorem Rel.pick {K : Fg} {mg : Str → Option Value} {G : Hp} {α : Al} {O : Oh} {H : Hp} {n j : Nat} {p : Addr} {c : Cell} (R : Rel K mg G α O H) (hp : α.as[j]? = some p) (hj : n ≤ j) (ej : O[j]? = some c) (l : Clo n (O.take n) = true) (lc : c.lt n = true) : Rel K mg G ((α.cut n).push p) (O.take n ++ [c]) H := by
  have hz : n ≤ α.as.length := Nat.le_trans hj (Nat.le_of_lt (List.getElem?_eq_some_iff.mp hp).1)
  have hm : p ∈ α.as := List.mem_of_getElem? hp
  have sub : ∀ a ∈ ((α.cut n).push p).as, a ∈ α.as := fun a ha => by
    rcases List.mem_append.mp ha with h | h
    · exact List.mem_of_mem_take h
    · rw [List.mem_singleton.mp h]; exact hm
  have key : ∀ (k : Nat) (a : Addr) (c : Cell), α.as[k]? = some a → O[k]? = some c → c.lt n = true → COk K mg G ((α.cut n).push p) H a c := by
    intro k a c h1 h2 hc
    have z := R.at_ k a c h1 h2
    have e : Ex G G := Ex.refl _
    have pp : Pre (α.cut n) ((α.cut n).push p) := Pre.push
    cases c with
    | lst xs => obtain ⟨h0, vs, q, h⟩ := z; exact ⟨h0, vs, q, RvL.mono e pp (h.cut hc)⟩
    | dic xs => obtain ⟨h0, vs, q, h⟩ := z; exact ⟨h0, vs, q, RK.mono e pp (h.cut hc)⟩
    | dct xs => obtain ⟨h0, vs, q, h⟩ := z; exact ⟨h0, vs, q, RK.mono e pp (h.cut hc)⟩
    | ldic od es xs => obtain ⟨h0, q, h⟩ := z; exact ⟨h0, q, RK.mono e pp (h.cut hc)⟩
    | ldct od es xs => obtain ⟨h0, q, h⟩ := z; exact ⟨h0, q, RK.mono e pp (h.cut hc)⟩
    | ins C xs => obtain ⟨h0, Ca, dx, es, q1, q2, q3, q4, q5, h⟩ := z; exact ⟨h0, Ca, dx, es, q1, q2, q3, q4, fun m => q5 (sub _ m), RK.mono e pp (h.cut hc)⟩
    | exn C fs => obtain ⟨h0, Ca, d, q1, q2, q3⟩ := z; exact ⟨h0, Ca, d, q1, q2, q3⟩
    | gone => trivial
  have lt : (α.as.take n).length = n := by rw [List.length_take]; omega
  have lt' : (O.take n).length = n := by rw [List.length_take, ← R.len]; omega
  refine ⟨R.ex, ?_, ?_, fun a ha => R.liv a (sub a ha), fun k a d h1 h2 => ?_, fun q hq => ?_, R.tb.mono (fun _ _ _ _ _ g => g) (fun _ _ h _ _ => h) (fun _ _ _ _ o => ⟨fun z => o.1 (sub _ z), o.2⟩)⟩
  · show (α.as.take n ++ [p]).length = _
    rw [List.length_append, List.length_append, lt, lt']; rfl
  · show (α.as.take n ++ [p]).Nodup
    rw [List.nodup_append]
    refine ⟨R.nd.sublist (List.take_sublist _ _), by simp, fun a ha b hb => ?_⟩
    rw [List.mem_singleton] at hb
    subst hb
    intro z
    subst z
    obtain ⟨i, hi, ei⟩ := List.getElem_of_mem ha
    rw [List.getElem_take] at ei
    rw [lt] at hi
    have e2 : α.as[i]? = α.as[j]? := by rw [hp, ← ei]; exact List.getElem?_eq_getElem _
    have := (List.getElem?_inj (i := i) (by omega) R.nd).mp e2
    omega
  · have h1 : (α.as.take n ++ [p])[k]? = some a := h1
    by_cases hk : k < n
    · rw [List.getElem?_append_left (by omega), List.getElem?_take, if_pos hk] at h1 h2
      refine key k a d h1 h2 ?_
      unfold Clo at l
      rw [List.all_eq_true] at l
      exact l d (List.mem_of_getElem? (show (O.take n)[k]? = some d by rw [List.getElem?_take, if_pos hk]; exact h2))
    · by_cases hk2 : k = n
      · subst hk2
        rw [List.getElem?_append_right (by omega), lt, Nat.sub_self] at h1
        rw [List.getElem?_append_right (by omega), lt', Nat.sub_self] at h2
        cases h1
        cases h2
        exact key j _ _ hp ej lc
      · rw [List.getElem?_eq_none (by rw [List.length_append, lt]; simp; omega)] at h1
        cases h1
  · obtain ⟨q1, q2, q3, q4⟩ := R.hd q hq
    exact ⟨q1, q2, fun z => q3 (sub _ z), q4⟩
theorem def_inC {K : Fg} {mg : Str → Option Value} {N ps : List Str} {b : DSt} {vs : List V} {H : Hp} {Q : VK} {E : XK} (h : liftF K mg (dDefC N.length ps.length b) vs H Q E) :
    liftS K mg (fun cls d _ H => E cls d H) b { nx := fun _ H' => Q .non H', rt := Q } (L2.start N vs) H := by
  obtain ⟨G, α, ws, O, R, xe, r, rel, ⟨hl, hw⟩, p, xp⟩ := h
  refine ⟨G, α, startG N.length ws, O, _, _, sl_start r, rel, hw rel.clo, ⟨?_, ?_, fun _ _ z => z.elim, fun _ _ z => z.elim⟩, ?_⟩
  · intro Γ' O' h' σ' G' α' H' e' p' rel' _
    obtain ⟨α'', O'', p'', rel'', q, _⟩ := fin_ok rel.len p' rel' h'
    exact p _ _ q _ _ _ _ e' p'' rel'' .non
  · intro r' O' h' v G' α' H' e' p' rel' rv'
    have h' : dAnsC O.length R r' O' := h'
    have rel' : Rel K mg G' α' O' H' := rel'
    have rv' : Rv K G' α' v r' := rv'
    show Q v H'
    cases r' with
    | d x =>
      obtain ⟨α'', O'', p'', rel'', q, c⟩ := fin_ok rel.len p' rel' (show Fin O.length O' (R (.d x)) from h')
      exact p _ _ q _ _ _ _ e' p'' rel'' (c _ _ rv' rfl)
    | k x =>
      obtain ⟨α'', O'', p'', rel'', q, c⟩ := fin_ok rel.len p' rel' (show Fin O.length O' (R (.k x)) from h')
      exact p _ _ q _ _ _ _ e' p'' rel'' (c _ _ rv' rfl)
    | p x =>
      obtain ⟨α'', O'', p'', rel'', q, c⟩ := fin_ok rel.len p' rel' (show Fin O.length O' (R (.p x)) from h')
      exact p _ _ q _ _ _ _ e' p'' rel'' (c _ _ rv' rfl)
    | q x y =>
      obtain ⟨α'', O'', p'', rel'', q, c⟩ := fin_ok rel.len p' rel' (show Fin O.length O' (R (.q x y)) from h')
      exact p _ _ q _ _ _ _ e' p'' rel'' (c _ _ rv' rfl)
    | e x y =>
      obtain ⟨α'', O'', p'', rel'', q, c⟩ := fin_ok rel.len p' rel' (show Fin O.length O' (R (.e x y)) from h')
      exact p _ _ q _ _ _ _ e' p'' rel'' (c _ _ rv' rfl)
    | o x y z =>
      obtain ⟨α'', O'', p'', rel'', q, c⟩ := fin_ok rel.len p' rel' (show Fin O.length O' (R (.o x y z)) from h')
      exact p _ _ q _ _ _ _ e' p'' rel'' (c _ _ rv' rfl)
    | t x =>
      have h' : (W.t x).lt O.length = true ∧ Fin O.length O' (R (.t x)) := h'
      obtain ⟨α'', O'', p'', rel'', q, c⟩ := fin_ok rel.len p' rel' h'.2
      exact p _ _ q _ _ _ _ e' p'' rel'' (c _ _ rv' h'.1)
    | c j =>
      obtain ⟨hj, hl, c, ec, lc, q⟩ := h'
      obtain ⟨a, ha, rfl⟩ := rv'
      have rel2 := rel'.pick ha hj ec hl lc
      obtain ⟨t, ht⟩ := p'.1
      have lt : (α'.as.take O.length) = α.as := by rw [← ht, ← rel.len, List.take_left]
      refine p _ _ q _ _ ((α'.cut O.length).push a) _ e' ⟨?_, p'.2⟩ rel2 ⟨a, ?_, rfl⟩
      · show α.as <+: α'.as.take O.length ++ [a]
        rw [lt]
        exact List.prefix_append _ _
      · show (α'.as.take O.length ++ [a])[O.length]? = some a
        rw [lt, List.getElem?_append_right (by rw [rel.len]; exact Nat.le_refl _), rel.len, Nat.sub_self]
        rfl
  · intro ex Γ' O' h' cls d σ' G' α' H' e' p' rel' _ xo
    obtain ⟨α'', O'', p'', rel'', q, _⟩ := fin_ok rel.len p' rel' h'
    exact xp _ _ q _ _ _ _ _ e' p'' rel'' xo
theorem ok_defCG {CX : CXT} {P : Program} {w : World} {K : Fg} {mg : Str → Option Value} {base : Heap} {qual : Str} {st : Stmt} {f : Addr} {fd : FuncData} {N ps : List Str} {k : Nat} {b : DSt} (mk : MkFn P w K mg base CX qual st N ps k f fd)
    (hb : ∀ (cdv : Value) (A : Around) (outer : List Env) (s : Shared) (H : Hp) (E : XK), Room k (A.deeper (envOfC qual (defScope st) s.heap.objs.size f cdv)) →
      DSs (cxOf CX P w K mg base N qual (defScope st) f cdv A outer s H E) (fun cls d _ H => E cls d H) (defBody st) b) :
    FnOk P w K mg base CX (k + 1) f fd ps (liftF K mg (dDefC N.length ps.length b)) := by
  refine mk _ (fun vs H Q E h => ?_) (fun cdv A outer s H vs Q E hr h => ?_)
  · obtain ⟨G, α, ws, O, R, xe, r, rel, ⟨hl, _⟩, _⟩ := h
    rw [r.len, hl]
  · exact ⟨_, hb cdv A outer s H E hr, def_inC h⟩
theorem ok_defC {P : Program} {w : World} {K : Fg} {mg : Str → Option Value} {base : Heap} {x qual : Str} {st : Stmt} {f : Addr} {fd : FuncData} {N ps : List Str} {k : Nat} {b : DSt} (F : Fun K x qual st f fd) (S : FnScope N ps (defScope st))
    (hb : ∀ (cdv : Value) (A : Around) (outer : List Env) (s : Shared) (H : Hp) (E : XK), Good (cxOf (L2N.CX P w) P w K mg base N qual (defScope st) f cdv A outer s H E) (fun cls d _ H => E cls d H) k →
      DSs (cxOf (L2N.CX P w) P w K mg base N qual (defScope st) f cdv A outer s H E) (fun cls d _ H => E cls d H) (defBody st) b) :
    FnOk P w K mg base (L2N.CX P w) (k + 1) f fd ps (liftF K mg (dDefC N.length ps.length b)) :=
  ok_defCG (Fun.mk F S) fun cdv A outer s H E hr => hb cdv A outer s H E ⟨L2N.takes_of rfl rfl rfl rfl, passes_of rfl, hr, rfl, S.nd⟩
end
end Dl
namespace Dl
open PySem PySem.Spec PyProof.Rows L2
variable [TabsC]
/-! #### tuples known to have no dict of their own -/
section
variable {X : Cx}
def rCatF (K : Fg) : R2 := fun x y H Q => ∃ a b xs ys, x = .ref a ∧ y = .ref b ∧ SqT K H a xs ∧ SqT K H b ys ∧ xs.length + ys.length ≤ sizeLine ∧
  (xs = [] → Q (.ref b) H) ∧ (xs ≠ [] → ys = [] → Q (.ref a) H) ∧ (xs ≠ [] → ys ≠ [] → ∀ p ob, H p = none → ob.dict = none → Q (.ref p) (upd H p (.frz ob (.tup (xs ++ ys)))))
theorem op_catF : OpR X (binaryOp .Add) (rCatF X.K) := by
  intro pins s σ H x y v u Q I rx ry h
  obtain ⟨a, b, xs, ys, rfl, rfl, ha, hb, hz, q0, q1, q2⟩ := h
  cases rx
  cases ry
  obtain ⟨its, r1, p1, _⟩ := I.tuple ha
  obtain ⟨its2, r2, p2, _⟩ := I.tuple hb
  by_cases hx : xs = []
  · subst hx
    cases r1
    exact L2.cat_tup0 p1 p2 ⟨.ref b, H, I, rfl, q0 rfl⟩
  · refine HT.cat_tup p1 p2 (fun z => hx (r1.nil_iff.mp z)) (fun z => ⟨.ref a, H, I, rfl, q1 hx (r2.nil_iff.mp z)⟩) (fun z => ?_) (by rw [← r1.length, ← r2.length]; exact hz)
    refine ⟨.ref s.heap.objs.size, _, I.laid (t' := s.toks) (o := .frz { cls := .type "tuple", data := .seq (its ++ its2).toArray } (.tup (xs ++ ys))) (fun b ob q => Heap.get?_push_of_some _ q) (Nat.le_refl _) ?_, rfl, q2 hx (fun w => z (r2.nil_iff.mpr w)) _ _ (I.hok.fresh (Nat.le_refl _)) rfl⟩
    exact ⟨Heap.get?_push_size _ rfl, by rw [List.length_append]; exact hz, _, r1.append r2, IsTup.new _ _⟩
def rTupOf (K : Fg) : List V → Hp → VK → Prop := fun xs H Q => ∃ p ys, xs = [.ref p] ∧ ((SqL K H p ys ∧ ∀ l ob, H l = none → ob.dict = none → Q (.ref l) (upd H l (.frz ob (.tup ys)))) ∨ (SqT K H p ys ∧ Q (.ref p) H))
theorem call_tupOf : CallR X (.type "tuple") (rTupOf X.K) := by
  intro pins s σ H xs us Q I r h
  obtain ⟨p, ys, rfl, h⟩ := h
  obtain ⟨u, rfl, rx⟩ := vals1 r
  cases rx
  rcases h with ⟨hq, q⟩ | ⟨hq, q⟩
  · obtain ⟨its, r', pl, hz⟩ := I.list hq
    have hlen := r'.length
    refine call_tuple_list pl.isList (fun h' kp => ?_) (by simp only [List.size_toArray] <;> omega)
    have I1 : Inv X pins σ H { s with heap := h' } := I.kept (t' := s.toks) kp
    have I2 : Inv X pins σ (upd H h'.objs.size (.frz { cls := .type "tuple", data := .seq its.toArray } (.tup ys))) { s with heap := h'.push { cls := .type "tuple", data := .seq its.toArray } } :=
      I1.laid (t' := s.toks) (fun b o e => Heap.get?_push_of_some _ e) (Nat.le_refl _) (show ObjOk X.prog X.w _ _ _ (.frz _ (.tup ys)) from ⟨Heap.get?_push_size _ rfl, hz, its, r', IsTup.new _ _⟩)
    exact ⟨.ref h'.objs.size, _, I2, rfl, q _ _ (I1.hok.fresh (Nat.le_refl _)) rfl⟩
  · obtain ⟨its, r', pl, hz⟩ := I.tuple hq
    exact call_tuple_same pl ⟨.ref p, H, I, rfl, q⟩
def rSlF (K : Fg) : V → Option Int → Option Int → Hp → VK → Prop := fun x lo hi H Q => ∃ a xs, x = .ref a ∧ SqT K H a xs ∧
  (HT.sIx xs.length 0 lo = 0 ∧ HT.sIx xs.length xs.length hi = xs.length → Q (.ref a) H) ∧ (¬ (HT.sIx xs.length 0 lo = 0 ∧ HT.sIx xs.length xs.length hi = xs.length) → ∀ p ob, H p = none → ob.dict = none → Q (.ref p) (upd H p (.frz ob (.tup (cutV xs lo hi)))))
theorem sl_tupF : SlR X (rSlF X.K) := by
  intro pins s σ H x v vl vu lo hi sl Q I rx hs pl pu h
  obtain ⟨a, xs, rfl, hx, q1, q2⟩ := h
  cases rx
  obtain ⟨its, r, ht, hz⟩ := I.tuple hx
  have hlen : its.toArray.size = xs.length := by rw [List.size_toArray]; exact r.length.symm
  refine ⟨"tuple", _, PyProof.Rows.slot_tuple_getitem.lookup, ht.typeIs, ?_⟩
  by_cases hw : HT.sIx xs.length 0 lo = 0 ∧ HT.sIx xs.length xs.length hi = xs.length
  · exact L2.getItem_tuple_whole ht hs pl pu (by rw [hlen]; exact hw) ⟨.ref a, H, I, rfl, q1 hw⟩
  · refine HT.getItem_tuple_cut ht hs pl pu (by rw [hlen]; exact hw) ?_ (by rw [hlen]; exact hz)
    rw [hlen]
    have ok : ObjOk X.prog X.w (upd H s.heap.objs.size (.frz { cls := .type "tuple", data := .seq ((its.toArray.toList.drop (HT.sIx xs.length 0 lo)).take (HT.sIx xs.length xs.length hi - HT.sIx xs.length 0 lo)).toArray } (.tup (cutV xs lo hi)))) (s.heap.push { cls := .type "tuple", data := .seq ((its.toArray.toList.drop (HT.sIx xs.length 0 lo)).take (HT.sIx xs.length xs.length hi - HT.sIx xs.length 0 lo)).toArray }) s.heap.objs.size (.frz { cls := .type "tuple", data := .seq ((its.toArray.toList.drop (HT.sIx xs.length 0 lo)).take (HT.sIx xs.length xs.length hi - HT.sIx xs.length 0 lo)).toArray } (.tup (cutV xs lo hi))) :=
      ⟨Heap.get?_push_size _ rfl, Nat.le_trans (cutV_length xs lo hi) hz, _, (r.drop (HT.sIx xs.length 0 lo)).take (HT.sIx xs.length xs.length hi - HT.sIx xs.length 0 lo), IsTup.new _ _⟩
    exact ⟨.ref s.heap.objs.size, _, I.laid (t' := s.toks) (fun b ob q => Heap.get?_push_of_some _ q) (Nat.le_refl _) ok, rfl, q2 hw _ _ (I.hok.fresh (Nat.le_refl _)) rfl⟩
end
/-! #### what stands as a list, as a list or tuple -/
def asL : W → Oh → Option (List W)
  | .d (.list ds), _ => some (ds.map W.d)
  | .c j, O => match O[j]? with
    | some (.lst ws) => some ws
    | _ => none
  | _, _ => none
def asS : W → Oh → Option (List W)
  | .d (.list ds), _ => some (ds.map W.d)
  | .d (.tuple ds), _ => some (ds.map W.d)
  | .d (.dict [(.none, .list ds)]), _ => some (ds.map W.d)
  | .p ds, _ => some (ds.map W.d)
  | .k ks, _ => some (ks.map fun x => W.d (keyD x))
  | .t xs, _ => some (xs.map tiW)
  | .c j, O => match O[j]? with
    | some (.lst ws) => some ws
    | _ => none
  | _, _ => none
section
variable {K : Fg} {mg : Str → Option Value} {G : Hp} {α : Al} {O : Oh} {H : Hp}
theorem asL_ok {v : V} {x : W} {ws : List W} (rel : Rel K mg G α O H) (r : Rv K G α v x) (h : asL x O = some ws) : ∃ a vs, v = .ref a ∧ H a = some (.lst vs) ∧ RvL K G α vs ws := by
  unfold asL at h
  split at h
  · cases h
    cases r with
    | lst hs ha => exact ⟨_, _, rfl, rel.ex _ _ hs, RvL.ofD ha⟩
  · next O' j =>
    split at h
    · next ws' e =>
      cases h
      obtain ⟨a, ha, rfl⟩ := r
      obtain ⟨_, vs, hH, rl⟩ := rel.at_ j a _ ha e
      exact ⟨a, vs, rfl, hH, rl⟩
    · cases h
  · cases h
theorem asS_ok {v : V} {x : W} {ws : List W} (rel : Rel K mg G α O H) (r : Rv K G α v x) (h : asS x O = some ws) : ∃ a vs, v = .ref a ∧ (SqL K H a vs ∨ SqT K H a vs) ∧ RvL K G α vs ws := by
  unfold asS at h
  split at h
  · cases h
    cases r with
    | lst hs ha => exact ⟨_, _, rfl, .inl (SqL.of (rel.ex _ _ hs)), RvL.ofD ha⟩
  · cases h
    cases r with
    | tup hs td ha => exact ⟨_, _, rfl, .inr (rel.ex.sqT hs), RvL.ofD ha⟩
  · cases h
    cases r with
    | scr ns hs => exact ⟨_, _, rfl, .inl (rel.ex.sqL hs), RvL.ofD (RpL.ints ns)⟩
    | dk hg hk =>
      cases hk with
      | @cons k _ _ _ _ _ e _ _ _ => cases k <;> cases e
  · cases h
    obtain ⟨a, vs, rfl, hs, ha⟩ := r
    exact ⟨_, _, rfl, .inr (rel.ex.sqT hs), RvL.ofD ha⟩
  · cases h
    obtain ⟨ok, a, rfl, hs⟩ := r
    refine ⟨a, _, rfl, .inr (SqT.of (rel.ex _ _ hs)), ?_⟩
    have z := RvL.ofD (α := α) (RpL.keys (K := K) (G := G) ok)
    rwa [List.map_map] at z
  · cases h
    obtain ⟨a, vs, rfl, hs, hr⟩ := r
    exact ⟨a, vs, rfl, .inr (SqT.of (rel.ex _ _ hs)), RiL.rv hr⟩
  · next O' j =>
    split at h
    · next ws' e =>
      cases h
      obtain ⟨a, ha, rfl⟩ := r
      obtain ⟨_, vs, hH, rl⟩ := rel.at_ j a _ ha e
      exact ⟨a, vs, rfl, .inl (SqL.of hH), rl⟩
    · cases h
  · cases h
end
/-- what may be laid as data: x or a cell's list -/
def asD : W → Oh → Option PyData
  | .d x, _ => some x
  | .c j, O => match O[j]? with
    | some (.lst ws) => match datas ws with
      | some ds => some (.list ds)
      | none => none
    | _ => none
  | .k ks, _ => some (.tuple (ks.map keyD))
  | .p ds, _ => some (.tuple ds)
  | _, _ => none
/-- data without dicts, not too deep -/
def shp : Nat → PyData → Bool
  | _, .none => true
  | _, .bool _ => true
  | _, .int _ => true
  | _, .str _ => true
  | n + 1, .list ds => ds.all (shp n)
  | n + 1, .tuple ds => ds.all (shp n)
  | _, _ => false
section
variable {K : Fg} {mg : Str → Option Value} {G : Hp} {α : Al} {O : Oh} {H : Hp}
mutual
theorem shp_depth : ∀ (n : Nat) (d : PyData), shp n d = true → d.depth ≤ n
  | n, .none, _ => by simp [PyData.depth]
  | n, .bool _, _ => by simp [PyData.depth]
  | n, .int _, _ => by simp [PyData.depth]
  | n, .str _, _ => by simp [PyData.depth]
  | 0, .list ds, h => by cases h
  | n + 1, .list ds, h => by
    have := shp_depths n ds h
    simp only [PyData.depth]
    omega
  | 0, .tuple ds, h => by cases h
  | n + 1, .tuple ds, h => by
    have := shp_depths n ds h
    simp only [PyData.depth]
    omega
  | 0, .dict _, h => by cases h
  | n + 1, .dict _, h => by cases h
theorem shp_depths : ∀ (n : Nat) (ds : List PyData), ds.all (shp n) = true → PyData.depthAll ds ≤ n
  | n, [], _ => by simp [PyData.depthAll]
  | n, d :: ds, h => by
    rw [List.all_cons, Bool.and_eq_true] at h
    have h1 := shp_depth n d h.1
    have h2 := shp_depths n ds h.2
    simp only [PyData.depthAll]
    omega
end
mutual
theorem rp_lay : ∀ (n : Nat) (d : PyData) {v : V}, Rp K G v d → shp n d = true → d.canLay0 = true
  | n, .none, _, _, _ => by simp [PyData.canLay0]
  | n, .bool _, _, _, _ => by simp [PyData.canLay0]
  | n, .int _, _, _, _ => by simp [PyData.canLay0]
  | n, .str _, _, r, _ => by cases r with | str _ h => simpa [PyData.canLay0] using h
  | 0, .list ds, _, _, h => by cases h
  | n + 1, .list ds, _, r, h => by
    cases r with | lst hs ha => simpa only [PyData.canLay0] using rp_lays n ds ha h
  | 0, .tuple ds, _, _, h => by cases h
  | n + 1, .tuple ds, _, r, h => by
    cases r with | tup hs td ha => simpa only [PyData.canLay0] using rp_lays n ds ha h
  | 0, .dict _, _, _, h => by cases h
  | n + 1, .dict _, _, _, h => by cases h
theorem rp_lays : ∀ (n : Nat) (ds : List PyData) {vs : List V}, RpL K G vs ds → ds.all (shp n) = true → PyData.canLayAll0 ds = true
  | n, [], _, _, _ => by simp [PyData.canLayAll0]
  | n, d :: ds, _, r, h => by
    rw [List.all_cons, Bool.and_eq_true] at h
    cases r with
    | cons r1 r2 =>
      simp only [PyData.canLayAll0, Bool.and_eq_true]
      exact ⟨rp_lay n d r1 h.1, rp_lays n ds r2 h.2⟩
end
mutual
theorem rp_dp : ∀ (n : Nat) (d : PyData) {v : V}, Ex G H → Rp K G v d → shp n d = true → Dp K H v d
  | n, .none, _, _, r, _ => by cases r; exact .non
  | n, .bool _, _, _, r, _ => by cases r; exact .bl _
  | n, .int _, _, _, r, _ => by cases r; exact .int _
  | n, .str _, _, _, r, _ => by cases r; exact .str _
  | 0, .list ds, _, _, _, h => by cases h
  | n + 1, .list ds, _, e, r, h => by
    cases r with | lst hs ha => exact .lst (SqL.of (e _ _ hs)) (rp_dps n ds e ha h)
  | 0, .tuple ds, _, _, _, h => by cases h
  | n + 1, .tuple ds, _, e, r, h => by
    cases r with | tup hs td ha => exact .tup (e.sqT hs) (rp_dps n ds e ha h)
  | 0, .dict _, _, _, _, h => by cases h
  | n + 1, .dict _, _, _, _, h => by cases h
theorem rp_dps : ∀ (n : Nat) (ds : List PyData) {vs : List V}, Ex G H → RpL K G vs ds → ds.all (shp n) = true → DpAll K H vs ds
  | n, [], _, _, r, _ => by cases r; exact .nil
  | n, d :: ds, _, e, r, h => by
    rw [List.all_cons, Bool.and_eq_true] at h
    cases r with
    | cons r1 r2 => exact .cons (rp_dp n d e r1 h.1) (rp_dps n ds e r2 h.2)
end
theorem shp_keys (n : Nat) : ∀ ks : List Key, (ks.map keyD).all (shp n) = true
  | [] => rfl
  | .inl i :: r => by rw [List.map_cons, List.all_cons, shp_keys n r]; cases n <;> rfl
  | .inr i :: r => by rw [List.map_cons, List.all_cons, shp_keys n r]; cases n <;> rfl
theorem shaped_of {n : Nat} {d : PyData} (hn : n ≤ 64) (h1 : d.canLay0 = true) (h2 : shp n d = true) : SeqAt.shaped d = true := by
  unfold SeqAt.shaped
  rw [h1, Bool.true_and]
  exact decide_eq_true (Nat.le_trans (shp_depth n d h2) hn)
theorem asD_ok {v : V} {x : W} {d : PyData} (rel : Rel K mg G α O H) (r : Rv K G α v x) (h : asD x O = some d) (hs : shp 40 d = true) : Dp K H v d ∧ SeqAt.shaped d = true := by
  unfold asD at h
  split at h
  · cases h
    exact ⟨rp_dp 40 _ rel.ex r hs, shaped_of (n := 40) (by decide) (rp_lay 40 _ r hs) hs⟩
  · next O' j =>
    split at h
    · next ws e =>
      split at h
      · next ds ed =>
        cases h
        obtain ⟨a, ha, rfl⟩ := r
        obtain ⟨_, vs, hH, rl⟩ := rel.at_ j a _ ha e
        rw [datas_eq ed] at rl
        have rd := rl.toD
        have hs' : ds.all (shp 39) = true := hs
        exact ⟨.lst (SqL.of hH) (rp_dps 39 _ rel.ex rd hs'), shaped_of (n := 40) (by decide) (by simpa only [PyData.canLay0] using rp_lays 39 ds rd hs') hs⟩
      · cases h
    · cases h
  · next O' ks =>
    cases h
    obtain ⟨ok, a, rfl, ht⟩ := r
    have rd := RpL.keys (K := K) (G := G) ok
    exact ⟨.tup (rel.ex.sqT (SqT.of ht)) (rp_dps 39 _ rel.ex rd (shp_keys 39 ks)), shaped_of (n := 40) (by decide) (by simpa only [PyData.canLay0] using rp_lays 39 _ rd (shp_keys 39 ks)) hs⟩
  · next O' ds =>
    cases h
    obtain ⟨a, vs, rfl, ht, rd⟩ := r
    have hs' : ds.all (shp 39) = true := hs
    exact ⟨.tup (rel.ex.sqT ht) (rp_dps 39 _ rel.ex rd hs'), shaped_of (n := 40) (by decide) (by simpa only [PyData.canLay0] using rp_lays 39 ds rd hs') hs⟩
  · cases h
end
/-! #### operators -/
theorem or_op {X : Cx} {f : Value → Value → Sem Value} {r r' : R2} (h : OpR X f r) (h' : OpR X f r') : OpR X f (fun x y H Q => r x y H Q ∨ r' x y H Q) := by
  intro pins s σ H x y v u Q I rx ry q
  rcases q with q | q
  · exact h pins s σ H x y v u Q I rx ry q
  · exact h' pins s σ H x y v u Q I rx ry q
def dAdd : D2 := fun x y O R => match x, y with
  | .d (.int i), .d (.int j) => R (.d (.int (i + j))) O
  | .d (.str i), .d (.str j) => i.length + j.length ≤ 1000000 ∧ R (.d (.str (i ++ j))) O
  | .d (.tuple xs), .d (.tuple ys) => xs.length + ys.length ≤ 1000000 ∧ R (.d (.tuple (xs ++ ys))) O
  | .d (.list xs), .d (.list ys) => xs.length + ys.length ≤ 1000000 ∧ R (.d (.list (xs ++ ys))) O
  | x, y => match asL x O, asL y O with
    | some xs, some ys => match datas xs, datas ys with
      | some ds, some es => ds.length + es.length ≤ 1000000 ∧ R (.d (.list (ds ++ es))) O
      | _, _ => False
    | _, _ => False
def rAdd4 (K : Fg) : R2 := fun x y H Q => (∃ i j, x = .int i ∧ y = .int j ∧ Q (.int (i + j)) H) ∨ (∃ i j, x = .str i ∧ y = .str j ∧ i.length + j.length ≤ sizeLine ∧ Q (.str (i ++ j)) H) ∨ rCatF K x y H Q ∨ rCat x y H Q
theorem op_add4 {X : Cx} : OpR X (binaryOp .Add) (rAdd4 X.K) := or_op op_add (or_op op_add_str (or_op op_catF op_cat))
theorem strOk_append {a b : Str} (ha : PyData.strOk a = true) (hb : PyData.strOk b = true) : PyData.strOk (a ++ b) = true := by
  unfold PyData.strOk at ha hb ⊢
  have e : (a ++ b).cps = a.cps ++ b.cps := rfl
  rw [e, Array.all_append, ha, hb]
  rfl
section
variable {K : Fg} {mg : Str → Option Value}
theorem cat_ok {G : Hp} {α : Al} {O : Oh} {H : Hp} {x y : W} {u v : V} {ds es : List PyData} {R : DK} {Q : VK} (rel : Rel K mg G α O H) {xs ys : List W} (r1 : Rv K G α u x) (r2 : Rv K G α v y) (h1 : asL x O = some xs) (h2 : asL y O = some ys)
    (e1 : datas xs = some ds) (e2 : datas ys = some es) (hz : ds.length + es.length ≤ 1000000) (q : R (.d (.list (ds ++ es))) O) (p : Post K mg G α R Q) : rCat u v H Q := by
  obtain ⟨a, vs, rfl, ha, ra⟩ := asL_ok rel r1 h1
  obtain ⟨b, us, rfl, hb, rb⟩ := asL_ok rel r2 h2
  rw [datas_eq e1] at ra
  rw [datas_eq e2] at rb
  have la := ra.toD.length
  have lb := rb.toD.length
  refine ⟨a, b, vs, us, rfl, rfl, ha, hb, by rw [la, lb]; exact szl hz, fun l hl => ?_⟩
  have ge := rel.ex.free hl
  exact p.lay q rel hl (.lst upd_same ((ra.toD.append rb.toD).mono (Ex.new ge)))
theorem s_add : OpS K mg dAdd (rAdd4 K) := by
  intro G α O H x y u v R Q rel r1 r2 h p
  unfold dAdd at h
  split at h
  · cases r1
    cases r2
    exact .inl ⟨_, _, rfl, rfl, p.here h rel (.int _)⟩
  · cases r1 with
    | str _ o1 =>
      cases r2 with
      | str _ o2 => exact .inr (.inl ⟨_, _, rfl, rfl, szl h.1, p.here h.2 rel (.str _ (strOk_append o1 o2))⟩)
  · cases r1 with
    | tup h1 t1 a1 =>
      cases r2 with
      | tup h2 t2 a2 =>
        have l1 := a1.length
        have l2 := a2.length
        refine .inr (.inr (.inl ⟨_, _, _, _, rfl, rfl, rel.ex.sqT h1, rel.ex.sqT h2, by rw [l1, l2]; exact szl h.1, fun z => ?_, fun _ z => ?_, fun _ _ l ob hl hd => p.layF h.2 rel hl hd (a1.append a2)⟩))
        · subst z
          cases a1
          exact p.here h.2 rel (.tup h2 t2 a2)
        · subst z
          cases a2
          have h3 := h.2
          rw [List.append_nil] at h3
          exact p.here h3 rel (.tup h1 t1 a1)
  · next xs ys => exact .inr (.inr (.inr (cat_ok rel r1 r2 (xs := xs.map W.d) (ys := ys.map W.d) rfl rfl (datas_map _) (datas_map _) h.1 h.2 p)))
  · split at h
    · next xs ys e1 e2 =>
      split at h
      · next ds es d1 d2 => exact .inr (.inr (.inr (cat_ok rel r1 r2 e1 e2 d1 d2 h.1 h.2 p)))
      · exact h.elim
    · exact h.elim
/-! ints -/
def dI2 (C : Int → Int → Prop) (g : Int → Int → PyData) : D2 := fun x y O R => match x, y with
  | .d (.int i), .d (.int j) => C i j ∧ R (.d (g i j)) O
  | _, _ => False
def dI20 (g : Int → Int → PyData) : D2 := fun x y O R => match x, y with
  | .d (.int i), .d (.int j) => R (.d (g i j)) O
  | _, _ => False
theorem s_I2 {C : Int → Int → Prop} {g : Int → Int → PyData} {gv : Int → Int → V} (hg : ∀ i j G, Rp K G (gv i j) (g i j)) : OpS K mg (dI2 C g) (rI C gv) := by
  intro G α O H x y u v R Q rel r1 r2 h p
  unfold dI2 at h
  split at h
  · cases r1
    cases r2
    exact ⟨_, _, rfl, rfl, h.1, p.here h.2 rel (hg _ _ _)⟩
  · exact h.elim
theorem s_I20 {g : Int → Int → PyData} {gv : Int → Int → V} (hg : ∀ i j G, Rp K G (gv i j) (g i j)) : OpS K mg (dI20 g) (rI0 gv) := by
  intro G α O H x y u v R Q rel r1 r2 h p
  unfold dI20 at h
  split at h
  · cases r1
    cases r2
    exact ⟨_, _, rfl, rfl, p.here h rel (hg _ _ _)⟩
  · exact h.elim
abbrev dSub : D2 := dI20 fun i j => .int (i - j)
theorem s_sub : OpS K mg dSub (rI0 fun i j => .int (i - j)) := s_I20 fun _ _ _ => .int _
abbrev dMul : D2 := dI2 CMul fun i j => .int (i * j)
theorem s_mul : OpS K mg dMul (rI CMul fun i j => .int (i * j)) := s_I2 fun _ _ _ => .int _
abbrev dMod : D2 := dI2 (fun _ j => 0 < j) fun i j => .int (i % j)
theorem s_mod : OpS K mg dMod (rI (fun _ j => 0 < j) fun i j => .int (i % j)) := s_I2 fun _ _ _ => .int _
abbrev dDiv : D2 := dI2 CDivW fun i j => .int (i / j)
theorem s_div : OpS K mg dDiv (rI CDivW fun i j => .int (i / j)) := s_I2 fun _ _ _ => .int _
abbrev dPow : D2 := dI2 CPow fun i j => .int (i ^ j.toNat)
theorem s_pow : OpS K mg dPow (rI CPow fun i j => .int (i ^ j.toNat)) := s_I2 fun _ _ _ => .int _
/-! == and != -/
def dEq : D2 := fun x y O R => match asD x O, asD y O with
  | some d, some e => shp 40 d = true ∧ shp 40 e = true ∧ R (.d (.bool (PyData.eqv d e))) O
  | _, _ => False
def dNe : D2 := fun x y O R => match asD x O, asD y O with
  | some d, some e => shp 40 d = true ∧ shp 40 e = true ∧ R (.d (.bool (!PyData.eqv d e))) O
  | _, _ => False
theorem s_eq : OpS K mg dEq (rEqD K) := by
  intro G α O H x y u v R Q rel r1 r2 h p
  unfold dEq at h
  split at h
  · next d e e1 e2 =>
    obtain ⟨d1, s1⟩ := asD_ok rel r1 e1 h.1
    obtain ⟨d2, s2⟩ := asD_ok rel r2 e2 h.2.1
    exact ⟨d, e, d1, d2, s1, s2, p.here h.2.2 rel (.bl _)⟩
  · exact h.elim
theorem s_ne : OpS K mg dNe (rNeD K) := by
  intro G α O H x y u v R Q rel r1 r2 h p
  unfold dNe at h
  split at h
  · next d e e1 e2 =>
    obtain ⟨d1, s1⟩ := asD_ok rel r1 e1 h.1
    obtain ⟨d2, s2⟩ := asD_ok rel r2 e2 h.2.1
    exact ⟨d, e, d1, d2, s1, s2, p.here h.2.2 rel (.bl _)⟩
  · exact h.elim
/-! is None -/
def isNone : W → Bool
  | .d .none => true
  | _ => false
end
end Dl
namespace Dl
open PySem PySem.Spec PyProof.Rows L2
variable [TabsC]
/-! #### subscripts -/
def dIx : D2 := fun x y O R => match x, y with
  | .d (.str s), .d (.int i) => s.length ≤ 1000000 ∧ (match atI s.cps.toList i with
    | some c => R (.d (.str ⟨#[c]⟩)) O
    | none => False)
  | x, .d (.int i) => (match asS x O with
    | some ws => (match atI ws i with
      | some w => R w O
      | none => False)
    | none => False)
  | _, _ => False
theorem strOk_one {s : Str} {i : Int} {c : Nat} (h : PyData.strOk s = true) (e : atI s.cps.toList i = some c) : PyData.strOk ⟨#[c]⟩ = true := by
  obtain ⟨j, _, hj, _⟩ := atI_get e
  have hm : c ∈ s.cps.toList := List.mem_of_getElem? hj
  unfold PyData.strOk at h ⊢
  rw [Array.all_eq_true] at h
  have hc : c < 0x110000 := by
    obtain ⟨n, hn, e⟩ := List.getElem_of_mem hm
    have := h n (by simpa using hn)
    rw [← e]
    simpa using this
  simp [hc]
theorem paired_atI {α β : Type} {F : α → β → Prop} {xs : List α} {ys : List β} {i : Int} {y : β} (r : Paired F xs ys) (h : atI ys i = some y) (get : ∀ j : Nat, ys[j]? = some y → ∃ x, xs[j]? = some x ∧ F x y) : ∃ x, atI xs i = some x ∧ F x y := by
  have hl := Paired.length r
  unfold atI at h ⊢
  rw [hl]
  cases e : ixN ys.length i with
  | none => rw [e] at h; cases h
  | some j =>
    rw [e] at h
    exact get j h
section
variable {K : Fg} {mg : Str → Option Value}
theorem s_ix : OpS K mg dIx (rIx K) := by
  intro G α O H x y u v R Q rel r1 r2 h p
  unfold dIx at h
  split at h
  · cases r2
    cases r1 with
    | str s ok =>
      obtain ⟨hz, h⟩ := h
      split at h
      · next c e => exact .inr (.inr ⟨_, _, _, rfl, rfl, szl hz, e, p.here h rel (.str _ (strOk_one ok e))⟩)
      · exact h.elim
  · cases r2
    split at h
    · next ws e =>
      split at h
      · next w ew =>
        obtain ⟨a, vs, rfl, hs, rl⟩ := asS_ok rel r1 e
        obtain ⟨z, hz, rz⟩ := paired_atI rl ew fun j q => rl.get q
        rcases hs with hs | hs
        · exact .inl ⟨a, vs, _, z, rfl, rfl, hs, hz, p.here h rel rz⟩
        · exact .inr (.inl ⟨a, vs, _, z, rfl, rfl, hs, hz, p.here h rel rz⟩)
      · exact h.elim
    · exact h.elim
  · exact h.elim
variable {X : Cx} {Wx : WX} {k : Nat} {a b c e : Expr} {wa wb wc we : DEx} {pos p2 : Pos} {es : List Expr} {ws : DA}
/-! #### slices -/
abbrev DO := Gm → Oh → (Option Int → Oh → Prop) → DX → Prop
def PostO (K : Fg) (mg : Str → Option Value) (G : Hp) (α : Al) (R : Option Int → Oh → Prop) (Q : Option Int → Hp → Prop) : Prop := ∀ r O', R r O' → ∀ G' α' H', Ex G G' → Pre α α' → Rel K mg G' α' O' H' → Q r H'
def liftO (K : Fg) (mg : Str → Option Value) (Wx : WX) (w : DO) : TO := fun σ H Q => ∃ G α Γ O R xe, Sl K G α Γ σ ∧ Rel K mg G α O H ∧ w Γ O R xe ∧ PostO K mg G α R Q ∧ XPost K mg G α xe Wx
def DOp (X : Cx) (Wx : WX) (e : Option Expr) (w : DO) : Prop := PO X e (liftO X.K X.mg Wx w)
def dO0 : DO := fun _ O R _ => R none O
def dO1 (w : DEx) : DO := fun Γ O R xe => w Γ O (fun x O1 => match x with
  | .d (.int i) => R (some i) O1
  | _ => False) xe
theorem do_none : DOp X Wx none dO0 := ⟨fun pins s σ H Q I h => by
  obtain ⟨G, α, Γ, O, R, xe, sl, rel, h, p, xp⟩ := h
  exact (po_none (X := X)).run pins s σ H Q I (p _ _ h _ _ _ (Ex.refl _) (Pre.refl _) rel)⟩
theorem do_some (he : DE X Wx e we) : DOp X Wx (some e) (dO1 we) := ⟨fun pins s σ H Q I h => by
  obtain ⟨G, α, Γ, O, R, xe, sl, rel, h, p, xp⟩ := h
  refine (po_some he).run pins s σ H Q I ⟨G, α, Γ, O, _, xe, sl, rel, h, fun x O1 h1 v G1 α1 H1 e1 p1 rel1 r1 => ?_, xp⟩
  dsimp only at h1
  split at h1
  · cases r1
    exact ⟨_, rfl, p _ _ h1 _ _ _ e1 p1 rel1⟩
  · exact h1.elim⟩
/-- the part of a list -/
def cutL {α : Type} (xs : List α) (lo hi : Option Int) : List α := (xs.drop (HT.sIx xs.length 0 lo)).take (HT.sIx xs.length xs.length hi - HT.sIx xs.length 0 lo)
theorem cutL_all {α : Type} {xs : List α} {lo hi : Option Int} (h0 : HT.sIx xs.length 0 lo = 0) (h1 : HT.sIx xs.length xs.length hi = xs.length) : cutL xs lo hi = xs := by
  unfold cutL
  rw [h0, h1, List.drop_zero, Nat.sub_zero, List.take_length]
def dSl (x : W) (lo hi : Option Int) (O : Oh) (R : DK) : Prop := match x with
  | .d (.str s) => s.length ≤ 1000000 ∧ R (.d (.str (cutS s lo hi))) O
  | .d (.tuple ds) => R (.d (.tuple (cutL ds lo hi))) O
  | .d (.list ds) => R (.d (.list (cutL ds lo hi))) O
  | x => match asL x O with
    | some ws => match datas ws with
      | some ds => R (.d (.list (cutL ds lo hi))) O
      | none => False
    | none => False
def dSlice (wo : DEx) (wl wh : DO) : DEx := fun Γ O R xe => wo Γ O (fun x O1 => wl Γ O1 (fun lo O2 => wh Γ O2 (fun hi O3 => dSl x lo hi O3 R) xe) xe) xe
theorem strOk_cut {s : Str} {lo hi : Option Int} (h : PyData.strOk s = true) : PyData.strOk (cutS s lo hi) = true := by
  unfold PyData.strOk at h ⊢
  rw [Array.all_eq_true] at h
  have hall : ∀ c ∈ s.cps.toList, c < 0x110000 := fun c hm => by
    obtain ⟨n, hn, e⟩ := List.getElem_of_mem hm
    have := h n (by simpa using hn)
    rw [← e]
    simpa using this
  unfold cutS
  rw [← Array.all_toList]
  rw [List.all_eq_true]
  intro c hc
  have hc' : c ∈ s.cps.toList := by
    exact List.mem_of_mem_drop (List.mem_of_mem_take hc)
  exact decide_eq_true (hall c hc')
theorem de_slice {lo hi : Option Expr} {wl wh : DO} (he : DE X Wx e we) (hl : DOp X Wx lo wl) (hh : DOp X Wx hi wh) : DE X Wx (.Subscript e (.Slice lo hi none p2) pos) (dSlice we wl wh) := by
  refine pe_imp (fun σ H Q ⟨G, α, Γ, O, R, xe, sl, rel, h, p, xp⟩ => ?_) (pe_slice (SlR.or sl_str (SlR.or sl_tupF sl_list)) he hl hh)
  refine ⟨G, α, Γ, O, _, xe, sl, rel, h, fun x O1 h1 v G1 α1 H1 e1 p1 rel1 r1 => ?_, xp⟩
  refine ⟨G1, α1, Γ, O1, _, xe, sl.mono e1 p1, rel1, h1, fun lo O2 h2 G2 α2 H2 e2 p2 rel2 => ?_, xp.mono e1 p1⟩
  refine ⟨G2, α2, Γ, O2, _, xe, sl.mono (e1.trans e2) (p1.trans p2), rel2, h2, fun hi O3 h3 G3 α3 H3 e3 p3 rel3 => ?_, xp.mono (e1.trans e2) (p1.trans p2)⟩
  have r3 := r1.mono (e2.trans e3) (p2.trans p3)
  have pp := p.mono (e1.trans (e2.trans e3)) (p1.trans (p2.trans p3))
  unfold dSl at h3
  split at h3
  · cases r3 with
    | str s ok => exact .inl ⟨_, rfl, szl h3.1, pp.here h3.2 rel3 (.str _ (strOk_cut ok))⟩
  · cases r3 with
    | tup hs td ha =>
      have hl := ha.length
      refine .inr (.inl ⟨_, _, rfl, rel3.ex.sqT hs, fun ⟨z1, z2⟩ => ?_, fun _ q ob hq hd => pp.layF h3 rel3 hq hd ?_⟩)
      · rw [hl] at z1 z2
        rw [cutL_all z1 z2] at h3
        exact pp.here h3 rel3 (.tup hs td ha)
      · unfold cutL
        rw [← hl]
        exact (ha.drop _).take _
  · cases r3 with
    | lst hs ha =>
      have hl := ha.length
      refine .inr (.inr ⟨_, _, rfl, SqL.of (rel3.ex _ _ hs), fun q hq => pp.lay h3 rel3 hq (.lst upd_same ?_)⟩)
      unfold cutL
      rw [← hl]
      exact ((ha.drop _).take _).mono (Ex.new (rel3.ex.free hq))
  · split at h3
    · next ws ew =>
      split at h3
      · next ds ed =>
        obtain ⟨a, vs, rfl, hs, rl⟩ := asL_ok rel3 r3 ew
        rw [datas_eq ed] at rl
        have ha := rl.toD
        have hl := ha.length
        refine .inr (.inr ⟨_, _, rfl, SqL.of hs, fun q hq => pp.lay h3 rel3 hq (.lst upd_same ?_)⟩)
        unfold cutL
        rw [← hl]
        exact ((ha.drop _).take _).mono (Ex.new (rel3.ex.free hq))
      · exact h3.elim
    · exact h3.elim
/-- xs[::-1] -/
def dRevL (we : DEx) : DEx := fun Γ O R xe => we Γ O (fun x O1 => match asL x O1 with
  | some ws => (match datas ws with
    | some ds => R (.d (.list ds.reverse)) O1
    | none => False)
  | none => False) xe
/-! #### in -/
def strIn (a b : Str) : Bool := !(Builtin.Str.occurrences b a 0 b.length 1).isEmpty
def rInS2 (neg : Bool) : R2 := fun x y H Q => ∃ i j, x = .str i ∧ y = .str j ∧ Q (.bl (if neg then !strIn i j else strIn i j)) H
/-! #### calls of built-ins by value -/
abbrev DC := List W → Oh → DK → Prop
def CallS (K : Fg) (mg : Str → Option Value) (f : DC) (r : List V → Hp → VK → Prop) : Prop := ∀ G α O H xs vs R Q, Rel K mg G α O H → RvL K G α vs xs → f xs O R → Post K mg G α R Q → r vs H Q
def dCB (f : DC) (ws : DA) : DEx := fun Γ O R xe => ws Γ O (fun xs O1 => f xs O1 R) xe
theorem lift_cb {f : DC} {r : List V → Hp → VK → Prop} (hs : CallS K mg f r) {σ : L2.St} {H : Hp} {Q : VK} (h : liftE K mg Wx (dCB f ws) σ H Q) : tCB r (liftA K mg Wx ws) σ H Q := by
  obtain ⟨G, α, Γ, O, R, xe, sl, rel, h, p, xp⟩ := h
  exact ⟨G, α, Γ, O, _, xe, sl, rel, h, fun x O1 h1 v G1 α1 H1 e1 p1 rel1 r1 => hs _ _ _ _ _ _ _ _ rel1 r1 h1 (p.mono e1 p1), xp⟩
variable {x : Str} {p : Pos}
theorem de_callB {id : String} {f : DC} {r : List V → Hp → VK → Prop} (hc : CallR X (.builtin id) r) (hs : CallS X.K X.mg f r) (hm : X.mg x = none) (hv : bootBuiltins x = some (.builtin id)) (ha : DAs X Wx (e :: es) ws) (hg : Gl X x := by rfl) (hn : x ≠ "__name__" := by decide) (hdb : (x == ("__debug__" : Str)) = false := by decide)
    (he : starEach (e :: es) X.env = (false, eval e X.env) :: starEach es X.env := by rfl) (hpl : (backTo pos (starEach es X.env)).any (·.1) = false := by rfl) : DE X Wx (.Call (.Name x p) (e :: es) [] pos) (dCB f ws) :=
  pe_imp (fun _ _ _ h => lift_cb hs h) (pe_callB hc hg hm hv ha hn hdb he hpl)
theorem de_callTy {T : String} {f : DC} {r : List V → Hp → VK → Prop} (hc : CallR X (.type T) r) (hs : CallS X.K X.mg f r) (hm : X.mg x = none) (hv : bootBuiltins x = some (.type T)) (ha : DAs X Wx (e :: es) ws) (hg : Gl X x := by rfl) (hn : x ≠ "__name__" := by decide) (hdb : (x == ("__debug__" : Str)) = false := by decide)
    (he : starEach (e :: es) X.env = (false, eval e X.env) :: starEach es X.env := by rfl) (hpl : (backTo pos (starEach es X.env)).any (·.1) = false := by rfl) : DE X Wx (.Call (.Name x p) (e :: es) [] pos) (dCB f ws) :=
  pe_imp (fun _ _ _ h => lift_cb hs h) (pe_callTy hc hg hm hv ha hn hdb he hpl)
theorem or_call {f : Value} {r r' : List V → Hp → VK → Prop} (h : CallR X f r) (h' : CallR X f r') : CallR X f (fun xs H Q => r xs H Q ∨ r' xs H Q) := by
  intro pins s σ H xs us Q I rs q
  rcases q with q | q
  · exact h pins s σ H xs us Q I rs q
  · exact h' pins s σ H xs us Q I rs q
theorem rv1 {G : Hp} {α : Al} {vs : List V} {w : W} (h : RvL K G α vs [w]) : ∃ v, vs = [v] ∧ Rv K G α v w := by
  cases h with
  | cons r t => cases t; exact ⟨_, rfl, r⟩
theorem rv2 {G : Hp} {α : Al} {vs : List V} {w z : W} (h : RvL K G α vs [w, z]) : ∃ v u, vs = [v, u] ∧ Rv K G α v w ∧ Rv K G α u z := by
  cases h with
  | cons r t => cases t with | cons r' t => cases t; exact ⟨_, _, rfl, r, r'⟩
def rLen3 (K : Fg) : List V → Hp → VK → Prop := fun xs H Q => (∃ p ys, xs = [.ref p] ∧ (SqL K H p ys ∨ SqT K H p ys) ∧ Q (.int ys.length) H) ∨ (∃ z, xs = [.str z] ∧ z.length ≤ sizeLine ∧ Q (.int z.length) H)
theorem call_len3 : CallR X (.builtin "len") (rLen3 X.K) := or_call call_len_seq call_len_str
def dLen : DC := fun xs O R => match xs with
  | [.d (.str s)] => s.length ≤ 1000000 ∧ R (.d (.int (s.length : Nat))) O
  | [x] => (match asS x O with
    | some ws => R (.d (.int (ws.length : Nat))) O
    | none => False)
  | _ => False
theorem s_len : CallS K mg dLen (rLen3 K) := by
  intro G α O H xs vs R Q rel r h p
  unfold dLen at h
  split at h
  · obtain ⟨v, rfl, rv⟩ := rv1 r
    cases rv
    exact .inr ⟨_, rfl, szl h.1, p.here h.2 rel (.int _)⟩
  · obtain ⟨v, rfl, rv⟩ := rv1 r
    split at h
    · next ws ew =>
      obtain ⟨a, vs, rfl, hs, rl⟩ := asS_ok rel rv ew
      refine .inl ⟨a, vs, rfl, hs, ?_⟩
      rw [rl.len]
      exact p.here h rel (.int _)
    · exact h.elim
  · exact h.elim
def dAbs : DC := fun xs O R => match xs with
  | [.d (.int i)] => R (.d (.int (if i < 0 then -i else i))) O
  | _ => False
theorem s_abs : CallS K mg dAbs (fun xs H Q => ∃ i, xs = [.int i] ∧ Q (.int (if i < 0 then -i else i)) H) := by
  intro G α O H xs vs R Q rel r h p
  unfold dAbs at h
  split at h
  · obtain ⟨v, rfl, rv⟩ := rv1 r
    cases rv
    exact ⟨_, rfl, p.here h rel (.int _)⟩
  · exact h.elim
def dMax : DC := fun xs O R => match xs with
  | [.d (.int i), .d (.int j)] => R (.d (.int (if j > i then j else i))) O
  | _ => False
theorem s_max : CallS K mg dMax (fun xs H Q => ∃ i j, xs = [.int i, .int j] ∧ Q (.int (if j > i then j else i)) H) := by
  intro G α O H xs vs R Q rel r h p
  unfold dMax at h
  split at h
  · obtain ⟨v, u, rfl, rv, ru⟩ := rv2 r
    cases rv; cases ru
    exact ⟨_, _, rfl, p.here h rel (.int _)⟩
  · exact h.elim
def dMin : DC := fun xs O R => match xs with
  | [.d (.int i), .d (.int j)] => R (.d (.int (if j < i then j else i))) O
  | _ => False
/-- tuple(x) -/
def dTupOf : DC := fun xs O R => match xs with
  | [.d (.tuple ds)] => R (.d (.tuple ds)) O
  | [x] => (match asL x O with
    | some ws => (match datas ws with
      | some ds => R (.d (.tuple ds)) O
      | none => False)
    | none => False)
  | _ => False
theorem s_tupOf : CallS K mg dTupOf (rTupOf K) := by
  intro G α O H xs vs R Q rel r h p
  unfold dTupOf at h
  split at h
  · obtain ⟨v, rfl, rv⟩ := rv1 r
    cases rv with
    | tup hs td ha => exact ⟨_, _, rfl, .inr ⟨rel.ex.sqT hs, p.here h rel (.tup hs td ha)⟩⟩
  · obtain ⟨v, rfl, rv⟩ := rv1 r
    split at h
    · next ws ew =>
      split at h
      · next ds ed =>
        obtain ⟨a, vs, rfl, hs, rl⟩ := asL_ok rel rv ew
        rw [datas_eq ed] at rl
        exact ⟨a, vs, rfl, .inl ⟨SqL.of hs, fun l ob hl hd => p.layF h rel hl hd rl.toD⟩⟩
      · exact h.elim
    · exact h.elim
  · exact h.elim
/-- list(x): one that never changes; one that will -/
def dListOf : DC := fun xs O R => match xs with
  | [x] => (match asS x O with
    | some ws => (match datas ws with
      | some ds => R (.d (.list ds)) O
      | none => False)
    | none => False)
  | _ => False
def dListC : DC := fun xs O R => match xs with
  | [x] => (match asS x O with
    | some ws => R (.c O.length) (O ++ [.lst ws])
    | none => False)
  | _ => False
/-! all, any of truth values -/
def boolsD : List PyData → Option (List Bool)
  | [] => some []
  | .bool b :: r => match boolsD r with
    | some bs => some (b :: bs)
    | none => none
  | _ :: _ => none
def dAll : DC := fun xs O R => match xs with
  | [.d (.list ds)] => (match boolsD ds with
    | some bs => R (.d (.bool (bs.all id))) O
    | none => False)
  | _ => False
def dAny : DC := fun xs O R => match xs with
  | [.d (.list ds)] => (match boolsD ds with
    | some bs => R (.d (.bool (bs.any id))) O
    | none => False)
  | _ => False
end
end Dl
/-! ### set(xs) of a list of texts, any number of them, some alike -/
namespace Dl
open PySem PySem.Spec PyProof.Rows
variable [TabsC]
/-- each once, by the first time -/
def addMet (σ : List Str) (v : Str) : List Str := if σ.any (· == v) then σ else σ ++ [v]
def met (xs : List Str) : List Str := xs.foldl addMet []
theorem addMet_le (σ : List Str) (v : Str) : (addMet σ v).length ≤ σ.length + 1 := by
  unfold addMet
  split
  · omega
  · rw [List.length_append]; exact Nat.le_refl _
theorem met_le_aux (xs : List Str) : ∀ σ : List Str, (xs.foldl addMet σ).length ≤ σ.length + xs.length := by
  induction xs with
  | nil => intro σ; exact Nat.le_refl _
  | cons x r ih =>
    intro σ
    have h1 := ih (addMet σ x)
    have h2 := addMet_le σ x
    show (r.foldl addMet (addMet σ x)).length ≤ σ.length + (r.length + 1)
    omega
end Dl
namespace Dl
open PySem PySem.Spec PyProof.Rows L2
variable [TabsC]
/-! #### methods of built-ins -/
abbrev DM := W → List W → Oh → DK → Prop
def MtS (K : Fg) (mg : Str → Option Value) (f : DM) (r : V → List V → Hp → VK → Prop) : Prop := ∀ G α O H x xs v vs R Q, Rel K mg G α O H → Rv K G α v x → RvL K G α vs xs → f x xs O R → Post K mg G α R Q → r v vs H Q
def isLstW : W → Oh → Bool
  | .d (.list _), _ => true
  | .c j, O => match O[j]? with
    | some (.lst _) => true
    | _ => false
  | _, _ => false
def isStrW : W → Oh → Bool
  | .d (.str _), _ => true
  | _, _ => false
def isDicW : W → Oh → Bool
  | .c j, O => match O[j]? with
    | some (.dic _) => true
    | some (.dct _) => true
    | _ => false
  | _, _ => false
def TwS (K : Fg) (mg : Str → Option Value) (tw : W → Oh → Bool) (T : String) : Prop := ∀ G α O H x v, Rel K mg G α O H → Rv K G α v x → tw x O = true → tyV K T v H
theorem tw_list {K : Fg} {mg : Str → Option Value} : TwS K mg isLstW "list" := by
  intro G α O H x v rel r h
  cases x with
  | d x =>
    cases x <;> first | (cases h; done) | skip
    cases r with | lst hs ha => exact .inl ⟨rfl, _, SqL.of (rel.ex _ _ hs)⟩
  | c j =>
    obtain ⟨a, ha, rfl⟩ := r
    unfold isLstW at h
    dsimp only at h
    split at h
    · next ws e =>
      obtain ⟨_, vs, hH, _⟩ := rel.at_ j a _ ha e
      exact .inl ⟨rfl, _, SqL.of hH⟩
    · cases h
  | _ => cases h
def dBM (tw : W → Oh → Bool) (f : DM) (wo : DEx) (ws : DA) : DEx := fun Γ O R xe => wo Γ O (fun o O1 => tw o O1 = true ∧ ws Γ O1 (fun xs O2 => f o xs O2 R) xe) xe
section
variable {X : Cx} {Wx : WX} {k : Nat} {a b c e o : Expr} {wa wb wc we wo : DEx} {pos p2 apos cpos : Pos} {es : List Expr} {ws : DA} {T id : String} {name : Str} {f : DM} {r : V → List V → Hp → VK → Prop} {tw : W → Oh → Bool}
theorem lift_bm {K : Fg} {mg : Str → Option Value} (hs : MtS K mg f r) (ht : TwS K mg tw T) {σ : L2.St} {H : Hp} {Q : VK} (h : liftE K mg Wx (dBM tw f wo ws) σ H Q) : tBM K T r (liftE K mg Wx wo) (liftA K mg Wx ws) σ H Q := by
  obtain ⟨G, α, Γ, O, R, xe, sl, rel, h, p, xp⟩ := h
  refine ⟨G, α, Γ, O, _, xe, sl, rel, h, fun x O1 h1 v G1 α1 H1 e1 p1 rel1 r1 => ⟨ht _ _ _ _ _ _ rel1 r1 h1.1, ?_⟩, xp⟩
  exact ⟨G1, α1, Γ, O1, _, xe, sl.mono e1 p1, rel1, h1.2, fun xs O2 h2 vs G2 α2 H2 e2 p2 rel2 r2 => hs _ _ _ _ _ _ _ _ _ _ rel2 (r1.mono e2 p2) r2 h2 (p.mono (e1.trans e2) (p1.trans p2)), xp.mono e1 p1⟩
theorem de_bm (pa : PlainAttrs T) (slot : Slot T name id) (hty : typeOf (.builtin id) = pure (.type "method_descriptor")) (hm : MtR X id r) (hs : MtS X.K X.mg f r) (ht : TwS X.K X.mg tw T) (ho : DE X Wx o wo) (ha : DAs X Wx (e :: es) ws)
    (hbase : attributeBase o name X.env (eval o X.env) = eval o X.env := by rfl)
    (hfew : ((backTo cpos (starEach (e :: es) X.env)).all (fun x => !x.1) && (backToKw cpos (keywordEach [] X.env)).all (fun x => x.1.isSome)
      && decide ((e :: es).length + ([] : List Keyword).length + (if ([] : List Keyword).isEmpty then 0 else 1) < 30)) = true := by rfl)
    (hline : (apos.endLine == cpos.line) = true := by rfl) (h1 : starEach (e :: es) X.env = (false, eval e X.env) :: starEach es X.env := by rfl) (hplain : (backTo cpos (starEach es X.env)).any (·.1) = false := by rfl) :
    DE X Wx (.Call (.Attribute o name apos) (e :: es) [] cpos) (dBM tw f wo ws) := pe_imp (fun _ _ _ h => lift_bm hs ht h) (pe_bm pa slot hty hm ho ha hbase hfew hline h1 hplain)
variable {K : Fg} {mg : Str → Option Value}
/-- a cell's list is written -/
theorem Post.wr {G : Hp} {α : Al} {R : DK} {Q : VK} {x : W} {O : Oh} {H : Hp} {j : Nat} {a : Addr} {vs us : List V} {ws zs : List W} {v : V} (p : Post K mg G α R Q) (rel : Rel K mg G α O H) (ha : α.as[j]? = some a) (ej : O[j]? = some (.lst ws)) (g0 : G a = none) (hH : H a = some (.lst vs))
    (rz : RvL K G α us zs) (rx : Rv K G α v x) (q : R x (O.set j (.lst zs))) : Q v (upd H a (.lst us)) :=
  p.here q (rel.write (c := .lst zs) ha ej hH g0 (fun b z => by cases z) (fun b z => by cases z) ⟨g0, us, upd_same, rz⟩) rx
def dAppend : DM := fun x xs O R => match x, xs with
  | .c j, [y] => (match O[j]? with
    | some (.lst ws) => ws.length < 1000000 ∧ R (.d .none) (O.set j (.lst (ws ++ [y])))
    | _ => False)
  | _, _ => False
theorem s_append : MtS K mg dAppend rAppend := by
  intro G α O H x xs v vs R Q rel r1 rl h p
  unfold dAppend at h
  split at h
  · next j y =>
    split at h
    · next ws ej =>
      obtain ⟨u, rfl, ru⟩ := rv1 rl
      obtain ⟨a, ha, rfl⟩ := r1
      obtain ⟨g0, us, hH, rw'⟩ := rel.at_ j a _ ha ej
      exact ⟨a, us, u, rfl, rfl, hH, by rw [rw'.len]; exact szlt h.1, p.wr rel ha ej g0 hH (rw'.append (.cons ru .nil)) (show Rv K G α .non (.d .none) from Rp.non) h.2⟩
    · exact h.elim
  · exact h.elim
end
end Dl
namespace Dl
open PySem PySem.Spec PyProof.Rows L2
variable [TabsC]
/-! #### dicts: what is in one -/
section
variable {κ : Type} [DecidableEq κ]
def valW (kvs : List (κ × W)) (k : κ) : Option W := (kvs.find? fun kv => decide (kv.1 = k)).map (·.2)
def putW (kvs : List (κ × W)) (k : κ) (v : W) : List (κ × W) :=
  if (kvs.any fun kv => decide (kv.1 = k)) = true then kvs.map (fun kv => if kv.1 = k then (kv.1, v) else kv) else kvs ++ [(k, v)]
def dropW (kvs : List (κ × W)) (k : κ) : List (κ × W) := kvs.filter fun kv => decide (kv.1 ≠ k)
variable {K : Fg} {G : Hp} {α : Al}
theorem RK.len : ∀ {vs : List (κ × V)} {ws : List (κ × W)}, RK K G α vs ws → vs.length = ws.length
  | _, _, .nil => rfl
  | _, _, .cons _ t => by rw [List.length_cons, List.length_cons, RK.len t]
theorem RK.val (k : κ) : ∀ {vs : List (κ × V)} {ws : List (κ × W)}, RK K G α vs ws → (valV vs k = none ∧ valW ws k = none) ∨ ∃ v w, valV vs k = some v ∧ valW ws k = some w ∧ Rv K G α v w
  | _, _, .nil => .inl ⟨rfl, rfl⟩
  | (a, v) :: l, (b, w) :: m, .cons ⟨e, r⟩ t => by
    have e : a = b := e
    subst e
    by_cases h : a = k
    · subst h
      exact .inr ⟨v, w, valV_pos (p := (a, v)) rfl, by simp [valW, List.find?_cons], r⟩
    · have e1 : valV ((a, v) :: l) k = valV l k := valV_neg (p := (a, v)) h
      have e2 : valW ((a, w) :: m) k = valW m k := by simp [valW, List.find?_cons, h]
      rw [e1, e2]
      exact RK.val k t
theorem RK.any (k : κ) : ∀ {vs : List (κ × V)} {ws : List (κ × W)}, RK K G α vs ws → (vs.any fun kv => decide (kv.1 = k)) = (ws.any fun kv => decide (kv.1 = k))
  | _, _, .nil => rfl
  | _, _, .cons h t => by rw [List.any_cons, List.any_cons, RK.any k t, h.1]
theorem RK.app {us : List (κ × V)} {zs : List (κ × W)} (h : RK K G α us zs) : ∀ {vs : List (κ × V)} {ws : List (κ × W)}, RK K G α vs ws → RK K G α (vs ++ us) (ws ++ zs)
  | _, _, .nil => h
  | _, _, .cons q t => .cons q (RK.app h t)
theorem RK.map1 {k : κ} {v : V} {w : W} (r : Rv K G α v w) : ∀ {vs : List (κ × V)} {ws : List (κ × W)}, RK K G α vs ws → RK K G α (vs.map fun kv => if kv.1 = k then (kv.1, v) else kv) (ws.map fun kv => if kv.1 = k then (kv.1, w) else kv)
  | _, _, .nil => .nil
  | (a, x) :: _, (b, y) :: _, .cons h t => by
    refine .cons ?_ (RK.map1 r t)
    have e : a = b := h.1
    subst e
    show (if a = k then (a, v) else (a, x)).1 = (if a = k then (a, w) else (a, y)).1 ∧ Rv K G α (if a = k then (a, v) else (a, x)).2 (if a = k then (a, w) else (a, y)).2
    by_cases z : a = k
    · rw [if_pos z, if_pos z]
      exact ⟨rfl, r⟩
    · rw [if_neg z, if_neg z]
      exact h
theorem RK.put {k : κ} {v : V} {w : W} (r : Rv K G α v w) {vs : List (κ × V)} {ws : List (κ × W)} (h : RK K G α vs ws) : RK K G α (putK vs k v) (putW ws k w) := by
  unfold putK putW
  rw [h.any k]
  by_cases z : (ws.any fun kv => decide (kv.1 = k)) = true
  · rw [if_pos z, if_pos z]
    exact h.map1 r
  · rw [if_neg z, if_neg z]
    exact RK.app (.cons ⟨rfl, r⟩ .nil) h
theorem RK.drop (k : κ) : ∀ {vs : List (κ × V)} {ws : List (κ × W)}, RK K G α vs ws → RK K G α (dropK vs k) (dropW ws k)
  | _, _, .nil => .nil
  | (a, x) :: _, (b, y) :: _, .cons h t => by
    have e : a = b := h.1
    subst e
    unfold dropK dropW
    rw [List.filter_cons, List.filter_cons]
    show RK K G α (if decide (a ≠ k) = true then _ else _) (if decide (a ≠ k) = true then _ else _)
    by_cases z : decide (a ≠ k) = true
    · rw [if_pos z, if_pos z]
      exact .cons h (RK.drop k t)
    · rw [if_neg z, if_neg z]
      exact RK.drop k t
end
/-- a dict that never changes -/
def keysD : List (PyData × PyData) → Option (List (Key × W))
  | [] => some []
  | (.int i, d) :: r => match keysD r with
    | some kvs => some ((.inl i, .d d) :: kvs)
    | none => none
  | (.str x, d) :: r => match keysD r with
    | some kvs => some ((.inr x, .d d) :: kvs)
    | none => none
  | _ :: _ => none
def asDk : W → Oh → Option (List (Key × W))
  | .d (.dict kvs), _ => keysD kvs
  | .c j, O => match O[j]? with
    | some (.dic kvs) => some kvs
    | some (.ldic _ _ kvs) => some kvs
    | _ => none
  | _, _ => none
def asDt : W → Oh → Option (List (List Key × W))
  | .c j, O => match O[j]? with
    | some (.dct kvs) => some kvs
    | some (.ldct _ _ kvs) => some kvs
    | _ => none
  | _, _ => none
def keyW : W → Option Key
  | .d (.int i) => some (.inl i)
  | .d (.str x) => some (.inr x)
  | _ => none
def keyT : W → Option (List Key)
  | .k ks => some ks
  | _ => none
section
variable {K : Fg} {mg : Str → Option Value} {G : Hp} {α : Al} {O : Oh} {H : Hp}
theorem keysD_ok : ∀ {ds : List (PyData × PyData)} {es : List (Key × V)} {kvs : List (Key × W)}, RpK K G es ds → keysD ds = some kvs → RK K G α es kvs
  | [], _, _, h, e => by
    cases h
    cases e
    exact .nil
  | (q, d) :: r, _, _, h, e => by
    cases h with
    | @cons k v es _ _ _ e0 ok rp t =>
      subst e0
      cases k with
      | inl i =>
        unfold keyD keysD at e
        split at e
        · next kvs e2 => cases e; exact .cons ⟨rfl, rp⟩ (keysD_ok t e2)
        · cases e
      | inr x =>
        unfold keyD keysD at e
        split at e
        · next kvs e2 => cases e; exact .cons ⟨rfl, rp⟩ (keysD_ok t e2)
        · cases e
theorem asDk_ok {v : V} {x : W} {kvs : List (Key × W)} (rel : Rel K mg G α O H) (r : Rv K G α v x) (h : asDk x O = some kvs) : ∃ a es, v = .ref a ∧ Rd H a (.dK es) ∧ RK K G α es kvs := by
  unfold asDk at h
  split at h
  · next ds _ =>
    cases r with
    | scr ns hs => cases h
    | dk hg hk => exact ⟨_, _, rfl, .inr ⟨_, rel.ex _ _ hg⟩, keysD_ok hk h⟩
  · next O' j =>
    obtain ⟨a, ha, rfl⟩ := r
    split at h
    · next ws e =>
      cases h
      obtain ⟨_, es, hH, rk⟩ := rel.at_ j a _ ha e
      exact ⟨a, es, rfl, .inl hH, rk⟩
    · next ob es ws e =>
      cases h
      obtain ⟨_, hH, rk⟩ := rel.at_ j a _ ha e
      exact ⟨a, es, rfl, .inr ⟨ob, hH⟩, rk⟩
    · cases h
  · cases h
theorem asDt_ok {v : V} {x : W} {kvs : List (List Key × W)} (rel : Rel K mg G α O H) (r : Rv K G α v x) (h : asDt x O = some kvs) : ∃ a es, v = .ref a ∧ Rd H a (.dT es) ∧ RK K G α es kvs := by
  unfold asDt at h
  split at h
  · next O' j =>
    obtain ⟨a, ha, rfl⟩ := r
    split at h
    · next ws e =>
      cases h
      obtain ⟨_, es, hH, rk⟩ := rel.at_ j a _ ha e
      exact ⟨a, es, rfl, .inl hH, rk⟩
    · next ob es ws e =>
      cases h
      obtain ⟨_, hH, rk⟩ := rel.at_ j a _ ha e
      exact ⟨a, es, rfl, .inr ⟨ob, hH⟩, rk⟩
    · cases h
  · cases h
theorem keyW_ok {v : V} {x : W} {k : Key} (r : Rv K G α v x) (h : keyW x = some k) : v = kV k ∧ keyOk k = true := by
  unfold keyW at h
  split at h
  · cases h
    cases r
    exact ⟨rfl, rfl⟩
  · cases h
    cases r with | str _ o => exact ⟨rfl, o⟩
  · cases h
theorem keyT_ok {v : V} {x : W} {k : List Key} (r : Rv K G α v x) (h : keyT x = some k) : ∃ b, v = .ref b ∧ G b = some (.tup (k.map kV)) := by
  unfold keyT at h
  split at h
  · cases h
    obtain ⟨_, a, e, q⟩ := r
    exact ⟨a, e, q⟩
  · cases h
/-- what a dict tells of a key -/
def dGet (x y : W) (O : Oh) (k : Option W → Prop) : Prop := match asDk x O with
  | some kvs => (match keyW y with
    | some q => k (valW kvs q)
    | none => False)
  | none => (match asDt x O with
    | some kvs => (match keyT y with
      | some q => k (valW kvs q)
      | none => False)
    | none => False)
def isDictW (x : W) (O : Oh) : Bool := (asDk x O).isSome || (asDt x O).isSome
theorem dGet_ok {x y : W} {u v : V} {k : Option W → Prop} (rel : Rel K mg G α O H) (r1 : Rv K G α u x) (r2 : Rv K G α v y) (h : dGet x y O k) :
    ∃ a, u = .ref a ∧ ((DGet H a v none ∧ k none) ∨ ∃ z w, DGet H a v (some z) ∧ Rv K G α z w ∧ k (some w)) := by
  unfold dGet at h
  split at h
  · next kvs e =>
    split at h
    · next q eq =>
      obtain ⟨a, es, rfl, hr, rk⟩ := asDk_ok rel r1 e
      obtain ⟨rfl, _⟩ := keyW_ok r2 eq
      refine ⟨a, rfl, ?_⟩
      rcases rk.val q with ⟨e1, e2⟩ | ⟨z, w, e1, e2, r⟩
      · rw [e2] at h
        exact .inl ⟨.inl ⟨es, q, hr, rfl, e1.symm⟩, h⟩
      · rw [e2] at h
        exact .inr ⟨z, w, .inl ⟨es, q, hr, rfl, e1.symm⟩, r, h⟩
    · exact h.elim
  · split at h
    · next kvs e =>
      split at h
      · next q eq =>
        obtain ⟨a, es, rfl, hr, rk⟩ := asDt_ok rel r1 e
        obtain ⟨b, rfl, hb⟩ := keyT_ok r2 eq
        have hb' : H b = some (.tup (q.map kV)) := rel.ex _ _ hb
        refine ⟨a, rfl, ?_⟩
        rcases rk.val q with ⟨e1, e2⟩ | ⟨z, w, e1, e2, r⟩
        · rw [e2] at h
          exact .inl ⟨.inr ⟨es, q, b, hr, rfl, hb', e1.symm⟩, h⟩
        · rw [e2] at h
          exact .inr ⟨z, w, .inr ⟨es, q, b, hr, rfl, hb', e1.symm⟩, r, h⟩
      · exact h.elim
    · exact h.elim
end
/-! #### a[b], of dicts too -/
def rIxD : R2 := fun x y H Q => ∃ a v, x = .ref a ∧ DGet H a y (some v) ∧ Q v H
theorem isD_of {H : Hp} {a : Addr} {y : V} {o : Option V} (g : DGet H a y o) : IsD H a := by
  rcases g with ⟨kvs, k, e, _, _⟩ | ⟨kvs, k, b, e, _, _, _⟩
  · exact .inl ⟨_, e⟩
  · exact .inr ⟨_, e⟩
theorem ix_dict {X : Cx} (hu : X.A.units + 1 < cLine) : IxR X rIxD := by
  intro value slice pins s σ H x y v u Q I rx ry h hs
  obtain ⟨a, z, ex, g, q⟩ := h
  subst ex
  obtain rfl : v = Value.ref a := rx
  obtain ⟨t1, t2, t3⟩ := isD_at I (isD_of g)
  have got : wpAny (model X.prog X.w) X.A (getItem (.ref a) u) (EP X pins σ Q) X.xe s := d_getItem hu I g ry fun w' s' I' r' => ⟨z, H, I', r', q⟩
  show wpAny _ _ (subscriptTail value slice (.ref a) u) _ _ s
  unfold subscriptTail
  refine wpAny_bind ?_
  rw [getitemInPython_of_ne t1.not_modules]
  refine wpAny_bind (wpAny_specialOf t1 PySem.F.slot_dict_getitem.lookup ?_)
  have last : wpAny (model X.prog X.w) X.A (subscripted slice false (.ref a) u) (fun r s₃ => wpAny (model X.prog X.w) X.A (letTemporaryGo value (.ref a) r >>= fun _ => pure r) (EP X pins σ Q) X.xe s₃) X.xe s := by
    rw [hs]
    refine wpAny_operating (wpAny_mono got (fun r s₃ x => ?_) fun _ _ x => x)
    exact wpAny_bind (wpAny_letTemporaryGo (wpAny_pure x))
  first | exact wpAny_pure (wpAny_bind last) | exact wpAny_bind (wpAny_pure (wpAny_bind last)) | exact wpAny_bind last
def dIx2 : D2 := fun x y O R => if isDictW x O = true then dGet x y O (fun o => match o with
  | some w => R w O
  | none => False) else dIx x y O R
section
variable {K : Fg} {mg : Str → Option Value}
theorem s_ix2 : OpS K mg dIx2 (fun x y H Q => rIxD x y H Q ∨ rIx K x y H Q) := by
  intro G α O H x y u v R Q rel r1 r2 h p
  unfold dIx2 at h
  split at h
  · obtain ⟨a, rfl, h⟩ := dGet_ok rel r1 r2 h
    rcases h with ⟨_, h⟩ | ⟨z, w, g, r, h⟩
    · exact h.elim
    · exact .inl ⟨a, z, rfl, g, p.here h rel r⟩
  · exact .inr (s_ix _ _ _ _ _ _ _ _ _ _ rel r1 r2 h p)
end
section
variable {X : Cx} {Wx : WX} {k : Nat} {a b c e : Expr} {wa wb wc we : DEx} {pos p2 : Pos}
theorem de_ix2 (g : Good X Wx k) (ha : DE X Wx a wa) (hb : DE X Wx b wb) (hs : PlainIx b := by intro _ _; rfl) : DE X Wx (.Subscript a b pos) (dOp dIx2 wa wb) :=
  pe_imp (fun _ _ _ h => lift_op s_ix2 h) (pe_ix ((ix_dict (hu_of g.rm)).or ix_seq) ha hb hs)
end
/-! #### in, of dicts and of any data -/
def rInDk (neg : Bool) : R2 := fun x y H Q => ∃ a o, y = .ref a ∧ DGet H a x o ∧ Q (.bl (if neg then !o.isSome else o.isSome)) H
theorem op_in_dict {X : Cx} (hu : X.A.units + 1 < cLine) : OpR X (compareOp .In) (rInDk false) := by
  intro pins s σ H x y v u Q I rx ry h
  obtain ⟨a, o, ey, g, q⟩ := h
  subst ey
  obtain rfl : u = Value.ref a := ry
  exact d_in hu I g rx fun s' I' => ⟨.bl o.isSome, H, I', rfl, q⟩
theorem op_notin_dict {X : Cx} (hu : X.A.units + 1 < cLine) : OpR X (compareOp .NotIn) (rInDk true) := by
  intro pins s σ H x y v u Q I rx ry h
  obtain ⟨a, o, ey, g, q⟩ := h
  subst ey
  obtain rfl : u = Value.ref a := ry
  exact d_notIn hu I g rx fun s' I' => ⟨.bl (!o.isSome), H, I', rfl, q⟩
/-- in a list or a tuple of data -/
def rInAny (K : Fg) (neg : Bool) : R2 := fun x y H Q => ∃ d ds e, Dp K H x d ∧ Dp K H y e ∧ (e = .list ds ∨ e = .tuple ds) ∧ d.plain = true ∧ PyData.plainAll ds = true ∧ d.depth ≤ 64 ∧
  Q (.bl (if neg then !(ds.any fun z => PyData.eqv z d) else ds.any fun z => PyData.eqv z d)) H
theorem op_in_any {X : Cx} (hu : X.A.units + 100 < cLine) : OpR X (compareOp .In) (rInAny X.K false) := by
  intro pins s σ H x y v u Q I rx ry h
  obtain ⟨d, ds, e, hd, hy, he, p1, p2, hz, q⟩ := h
  obtain ⟨as, r1⟩ := Dp.reads I d x v hd rx
  obtain ⟨bs, r2⟩ := Dp.reads I e y u hy ry
  have hm : min (PyData.depthAll ds) d.depth ≤ 64 := Nat.le_trans (Nat.min_le_right _ _) hz
  rcases he with rfl | rfl
  · exact SeqAt.in_list_data r2 r1 p2 p1 (by omega) ⟨.bl (ds.any fun z => PyData.eqv z d), H, I, rfl, q⟩
  · exact SeqAt.in_tuple_data r2 r1 p2 p1 (by omega) ⟨.bl (ds.any fun z => PyData.eqv z d), H, I, rfl, q⟩
theorem op_notin_any {X : Cx} (hu : X.A.units + 100 < cLine) : OpR X (compareOp .NotIn) (rInAny X.K true) := by
  intro pins s σ H x y v u Q I rx ry h
  obtain ⟨d, ds, e, hd, hy, he, p1, p2, hz, q⟩ := h
  obtain ⟨as, r1⟩ := Dp.reads I d x v hd rx
  obtain ⟨bs, r2⟩ := Dp.reads I e y u hy ry
  have hm : min (PyData.depthAll ds) d.depth ≤ 64 := Nat.le_trans (Nat.min_le_right _ _) hz
  rcases he with rfl | rfl
  · exact SeqAt.notIn_list_data r2 r1 p2 p1 (by omega) ⟨.bl (!(ds.any fun z => PyData.eqv z d)), H, I, rfl, q⟩
  · exact SeqAt.notIn_tuple_data r2 r1 p2 p1 (by omega) ⟨.bl (!(ds.any fun z => PyData.eqv z d)), H, I, rfl, q⟩
theorem hu100 {A : Around} {k : Nat} (r : Room k A) : A.units + 100 < cLine := by have := r.un; omega
mutual
theorem shp_plain : ∀ (n : Nat) (d : PyData), shp n d = true → d.plain = true
  | n, .none, _ => rfl
  | n, .bool _, _ => rfl
  | n, .int _, _ => rfl
  | n, .str _, _ => rfl
  | 0, .list ds, h => by cases h
  | n + 1, .list ds, h => by simpa only [PyData.plain] using shp_plains n ds h
  | 0, .tuple ds, h => by cases h
  | n + 1, .tuple ds, h => by simpa only [PyData.plain] using shp_plains n ds h
  | 0, .dict _, h => by cases h
  | n + 1, .dict _, h => by cases h
theorem shp_plains : ∀ (n : Nat) (ds : List PyData), ds.all (shp n) = true → PyData.plainAll ds = true
  | n, [], _ => rfl
  | n, d :: ds, h => by
    rw [List.all_cons, Bool.and_eq_true] at h
    simp only [PyData.plainAll, Bool.and_eq_true]
    exact ⟨shp_plain n d h.1, shp_plains n ds h.2⟩
end
def seqD : PyData → Option (List PyData)
  | .list ds => some ds
  | .tuple ds => some ds
  | _ => none
def dIn2 (neg : Bool) : D2 := fun x y O R => if isDictW y O = true then dGet y x O (fun o => R (.d (.bool (if neg then !o.isSome else o.isSome))) O) else
  match x, y with
  | .d (.str i), .d (.str j) => R (.d (.bool (if neg then !strIn i j else strIn i j))) O
  | x, y => (match asD x O, asD y O with
    | some d, some e => (match seqD e with
      | some ds => shp 40 d = true ∧ shp 40 e = true ∧ R (.d (.bool (if neg then !(ds.any fun z => PyData.eqv z d) else ds.any fun z => PyData.eqv z d))) O
      | none => False)
    | _, _ => False)
theorem seqD_shp {e : PyData} {ds : List PyData} {n : Nat} (h : seqD e = some ds) (hs : shp (n + 1) e = true) : (e = .list ds ∨ e = .tuple ds) ∧ ds.all (shp n) = true := by
  cases e <;> first | (cases h; done) | skip
  · cases h; exact ⟨.inl rfl, hs⟩
  · cases h; exact ⟨.inr rfl, hs⟩
section
variable {K : Fg} {mg : Str → Option Value}
theorem s_in2 {neg : Bool} : OpS K mg (dIn2 neg) (fun x y H Q => rInS2 neg x y H Q ∨ rInDk neg x y H Q ∨ rInAny K neg x y H Q) := by
  intro G α O H x y u v R Q rel r1 r2 h p
  unfold dIn2 at h
  split at h
  · obtain ⟨a, rfl, h⟩ := dGet_ok rel r2 r1 h
    refine .inr (.inl ?_)
    rcases h with ⟨g, h⟩ | ⟨z, w, g, r, h⟩
    · exact ⟨a, none, rfl, g, p.here h rel (.bl _)⟩
    · exact ⟨a, some z, rfl, g, p.here h rel (.bl _)⟩
  · split at h
    · cases r1
      cases r2
      exact .inl ⟨_, _, rfl, rfl, p.here h rel (.bl _)⟩
    · next x y _ =>
      split at h
      · next d e e1 e2 =>
        split at h
        · next ds es =>
          obtain ⟨d1, s1⟩ := asD_ok rel r1 e1 h.1
          obtain ⟨d2, s2⟩ := asD_ok rel r2 e2 h.2.1
          obtain ⟨q1, q2⟩ := seqD_shp es h.2.1
          exact .inr (.inr ⟨d, ds, e, d1, d2, q1, shp_plain 40 d h.1, shp_plains 39 ds q2, Nat.le_trans (shp_depth 40 d h.1) (by decide), p.here h.2.2 rel (.bl _)⟩)
        · exact h.elim
      · exact h.elim
end
section
variable {X : Cx} {Wx : WX} {k : Nat}
theorem op_in5 (g : Good X Wx k) : OpR X (compareOp .In) (fun x y H Q => rInS2 false x y H Q ∨ rInDk false x y H Q ∨ rInAny X.K false x y H Q) := or_op op_in_str (or_op (op_in_dict (hu_of g.rm)) (op_in_any (hu100 g.rm)))
theorem op_notin5 (g : Good X Wx k) : OpR X (compareOp .NotIn) (fun x y H Q => rInS2 true x y H Q ∨ rInDk true x y H Q ∨ rInAny X.K true x y H Q) := or_op op_notIn_str (or_op (op_notin_dict (hu_of g.rm)) (op_notin_any (hu100 g.rm)))
end
/-! #### {} and d[k] = e -/
/-- a dict that will change, its keys ints and texts; tuples -/
def dDicK : DEx := fun _ O R _ => R (.c O.length) (O ++ [.dic []])
def dDicT : DEx := fun _ O R _ => R (.c O.length) (O ++ [.dct []])
/-- an empty dict that never changes -/
def dDicE : DEx := fun _ O R _ => R (.d (.dict [])) O
section
variable {X : Cx} {Wx : WX} {k : Nat} {a b c e : Expr} {wa wb wc we : DEx} {pos p2 : Pos}
/-! #### a dict is frozen -/
/-- o[i] = v, of a list or a dict -/
def dPutIx (o i v : W) (O : Oh) (k : Oh → Prop) : Prop := match o with
  | .c j => (match O[j]? with
    | some (.lst ws) => (match i with
      | .d (.int n) => (match ixN ws.length n with
        | some m => k (O.set j (.lst (ws.set m v)))
        | none => False)
      | _ => False)
    | some (.dic kvs) => (match keyW i with
      | some q => kvs.length < 1000000 ∧ k (O.set j (.dic (putW kvs q v)))
      | none => False)
    | some (.dct kvs) => (match keyT i with
      | some q => kvs.length < 1000000 ∧ k (O.set j (.dct (putW kvs q v)))
      | none => False)
    | _ => False)
  | _ => False
def dSetI (wo wi we : DEx) : DSt := fun D xe Γ O => we Γ O (fun v O1 => wo Γ O1 (fun o O2 => wi Γ O2 (fun i O3 => dPutIx o i v O3 fun O4 => D.nx Γ O4) xe) xe) xe
theorem putIx_ok {K : Fg} {mg : Str → Option Value} {G : Hp} {α : Al} {O : Oh} {H : Hp} {o i v : W} {ov iv vv : V} {k : Oh → Prop} {Q : Hp → Prop} (rel : Rel K mg G α O H) (r1 : Rv K G α ov o) (r2 : Rv K G α iv i) (r3 : Rv K G α vv v) (h : dPutIx o i v O k)
    (q : ∀ O' H', k O' → Rel K mg G α O' H' → Q H') : rSetL ov iv vv H Q ∨ rSetD ov iv vv H Q := by
  unfold dPutIx at h
  split at h
  · next j =>
    obtain ⟨a, ha, rfl⟩ := r1
    split at h
    · next ws ej =>
      split at h
      · next n =>
        split at h
        · next m em =>
          cases r2
          obtain ⟨g0, vs, hH, rl⟩ := rel.at_ j a _ ha ej
          refine .inl ⟨a, vs, n, m, rfl, rfl, hH, by rw [rl.len]; exact em, ?_⟩
          exact q _ _ h (rel.write (o := .lst (vs.set m vv)) (c := .lst (ws.set m v)) ha ej hH g0 (fun b z => by cases z) (fun b z => by cases z) ⟨g0, _, upd_same, rl.set r3 m⟩)
        · exact h.elim
      · exact h.elim
    · next kvs ej =>
      split at h
      · next y ey =>
        obtain ⟨rfl, _⟩ := keyW_ok r2 ey
        obtain ⟨g0, es, hH, rk⟩ := rel.at_ j a _ ha ej
        refine .inr ⟨a, _, rfl, DPut.k hH (by rw [rk.len]; exact szlt h.1), ?_⟩
        exact q _ _ h.2 (rel.write (o := .dK (putK es y vv)) (c := .dic (putW kvs y v)) ha ej hH g0 (fun b z => by cases z) (fun b z => by cases z) ⟨g0, _, upd_same, rk.put r3⟩)
      · exact h.elim
    · next kvs ej =>
      split at h
      · next y ey =>
        obtain ⟨b, rfl, hb⟩ := keyT_ok r2 ey
        obtain ⟨g0, es, hH, rk⟩ := rel.at_ j a _ ha ej
        refine .inr ⟨a, _, rfl, DPut.t hH (rel.ex _ _ hb) (by rw [rk.len]; exact szlt h.1), ?_⟩
        exact q _ _ h.2 (rel.write (o := .dT (putK es y vv)) (c := .dct (putW kvs y v)) ha ej hH g0 (fun b z => by cases z) (fun b z => by cases z) ⟨g0, _, upd_same, rk.put r3⟩)
      · exact h.elim
    · exact h.elim
  · exact h.elim
theorem set_or {t t' : TSet} (h : PSet X t) (h' : PSet X t') : PSet X (fun o i v H Q => t o i v H Q ∨ t' o i v H Q) := by
  intro pins s σ H o i v ov iv u Q I r1 r2 r3 q
  rcases q with q | q
  · exact h pins s σ H o i v ov iv u Q I r1 r2 r3 q
  · exact h' pins s σ H o i v ov iv u Q I r1 r2 r3 q
theorem ds_setI (g : Good X Wx k) {pos' : Pos} (ho : DE X Wx a wa) (hi : DE X Wx b wb) (he : DE X Wx e we) (hs : swapsWithSole [.Subscript a b pos'] e pos.line X.env = pure false := by rfl) (hw : swappedStores [.Subscript a b pos'] e X.env = pure none := by rfl)
    (h1 : (assignEach [.Subscript a b pos'] X.env).map (·.2) = [assign (.Subscript a b pos') X.env] := by rfl)
    (hA : ∀ v, assign (.Subscript a b pos') X.env v = (do
      let ov ← holding [v] (eval a X.env)
      let iv ← holding [v, ov] (eval b X.env)
      standAt pos'
      holding [v, ov, iv] (setItem ov iv v)
      release [v, ov, iv] []) := by intro _; rfl) : DS X Wx (.Assign [.Subscript a b pos'] e pos) (dSetI wa wb we) := by
  refine ps_imp (fun D σ H ⟨G, α, Γ, O, DD, xe, sl, rel, h, p, xp⟩ => ?_) (ps_asg he (pg_sub ho hi (set_or set_list (set_dict (hu_of g.rm))) hA) hs hw h1)
  refine ⟨G, α, Γ, O, _, xe, sl, rel, h, fun y O1 h1 v G1 α1 H1 e1 p1 rel1 r1 => ?_, xp⟩
  refine ⟨G1, α1, Γ, O1, _, xe, sl.mono e1 p1, rel1, h1, fun o O2 h2 ov G2 α2 H2 e2 p2 rel2 r2 => ?_, xp.mono e1 p1⟩
  refine ⟨G2, α2, Γ, O2, _, xe, sl.mono (e1.trans e2) (p1.trans p2), rel2, h2, fun i O3 h3 iv G3 α3 H3 e3 p3 rel3 r3 => ?_, xp.mono (e1.trans e2) (p1.trans p2)⟩
  have e13 := e1.trans (e2.trans e3)
  have p13 := p1.trans (p2.trans p3)
  exact putIx_ok rel3 (r2.mono e3 p3) r3 (r1.mono (e2.trans e3) (p2.trans p3)) h3 fun O' H' q rel' => p.nx _ _ q _ _ _ _ e13 p13 rel' (sl.mono e13 p13)
end
/-! #### list(d) -/
def dListOf2 : DC := fun xs O R => match xs with
  | [x] => (match asDk x O with
    | some kvs => kvs.length ≤ 1000000 ∧ (kvs.map (·.1)).all keyOk = true ∧ R (.d (.list (kvs.map fun kv => keyD kv.1))) O
    | none => dListOf [x] O R)
  | _ => False
def dListC2 : DC := fun xs O R => match xs with
  | [x] => (match asDk x O with
    | some kvs => kvs.length ≤ 1000000 ∧ (kvs.map (·.1)).all keyOk = true ∧ R (.c O.length) (O ++ [.lst (kvs.map fun kv => .d (keyD kv.1))])
    | none => dListC [x] O R)
  | _ => False
end Dl
namespace Dl
open PySem PySem.Spec PyProof.Rows L2
variable [TabsC]
/-! #### isinstance with a built-in class -/
def tyW : W → Oh → Option String
  | .d .none, _ => some "NoneType"
  | .d (.bool _), _ => some "bool"
  | .d (.int _), _ => some "int"
  | .d (.str _), _ => some "str"
  | .d (.list _), _ => some "list"
  | .d (.tuple _), _ => some "tuple"
  | .d (.dict []), _ => some "dict"
  | .d (.dict ((.int _, _) :: _)), _ => some "dict"
  | .d (.dict ((.str _, _) :: _)), _ => some "dict"
  | .k _, _ => some "tuple"
  | .c j, O => match O[j]? with
    | some (.lst _) => some "list"
    | some (.dic _) => some "dict"
    | some (.dct _) => some "dict"
    | _ => none
  | _, _ => none
def subT (t T : String) : Bool := t == T || (t == "bool" && T == "int")
def dIsi (T : String) (we : DEx) : DEx := fun Γ O R xe => we Γ O (fun x O1 => match tyW x O1 with
  | some t => R (.d (.bool (subT t T))) O1
  | none => False) xe
/-! #### sorted -/
def alikeB (ds : List PyData) : Bool := ds.all fun d => ds.all fun e => PySem.W.alike d e
def sortableB (ds : List PyData) : Bool := (ds.all fun d => match d with
  | .tuple (_ :: _) => true
  | _ => false) || ds.all fun d => match d with
  | .none => false
  | .tuple _ => false
  | _ => true
def srtD (ds : List PyData) : List PyData := ds.mergeSort (PySem.W.dataLe false fun d => d)
def strsD : List PyData → Option (List Str)
  | [] => some []
  | .str x :: r => match strsD r with
    | some xs => some (x :: xs)
    | none => none
  | _ :: _ => none
theorem strsD_eq : ∀ {ds : List PyData} {xs : List Str}, strsD ds = some xs → ds = xs.map PyData.str
  | [], xs, h => by cases h; rfl
  | .str x :: r, xs, h => by
    unfold strsD at h
    split at h
    · next ys e => cases h; rw [strsD_eq e]; rfl
    · cases h
  | .none :: _, _, h => by cases h
  | .bool _ :: _, _, h => by cases h
  | .int _ :: _, _, h => by cases h
  | .list _ :: _, _, h => by cases h
  | .tuple _ :: _, _, h => by cases h
  | .dict _ :: _, _, h => by cases h
theorem strsD_map (xs : List Str) : strsD (xs.map PyData.str) = some xs := by
  induction xs with
  | nil => rfl
  | cons x xs ih => show (match strsD (xs.map PyData.str) with | some ys => some (x :: ys) | none => none) = _; rw [ih]
def keysStr : List Key → Option (List Str)
  | [] => some []
  | .inr x :: r => match keysStr r with
    | some xs => some (x :: xs)
    | none => none
  | _ :: _ => none
def dSorted : DC := fun xs O R => match xs with
  | [x] => (match asDk x O with
    | some kvs => (match keysStr (kvs.map (·.1)) with
      | some ks => ks.length < 64 ∧ ks.all PyData.strOk = true ∧ R (.d (.list (srtD (ks.map PyData.str)))) O
      | none => False)
    | none => (match asS x O with
      | some ws => (match datas ws with
        | some ds => alikeB ds = true ∧ sortableB ds = true ∧ ds.all (shp 40) = true ∧ R (.d (.list (srtD ds))) O
        | none => False)
      | none => False))
  | _ => False
end Dl
namespace Dl
open PySem PySem.Spec PyProof.Rows L2
variable [TabsC]
/-! #### texts in order -/
def leS (a b : Str) : Bool := decide (a.cps.toList ≤ b.cps.toList)
theorem dataLe_strs (a b : Str) : PySem.W.dataLe false (fun d => d) (.str a) (.str b) = leS a b := congrFun (congrFun (PySem.W.dataLe_str (β := Str) fun x => x) a) b
def srtS (xs : List Str) : List Str := xs.mergeSort leS
theorem srtD_strs (xs : List Str) : srtD (xs.map PyData.str) = (srtS xs).map PyData.str := by
  unfold srtD srtS
  exact (List.map_mergeSort fun a _ b _ => (dataLe_strs a b).symm).symm
/-! ints -/
/-! #### sep.join(texts) -/
def dJoin (wo wa : DEx) : DEx := fun Γ O R xe => wo Γ O (fun o O1 => match o with
  | .d (.str z) => wa Γ O1 (fun x O2 => match asS x O2 with
    | some ws => (match datas ws with
      | some ds => (match strsD ds with
        | some ys => (ys.map (·.length)).sum + ys.length * z.length ≤ 1000000 ∧ R (.d (.str (Txt.join z ys))) O2
        | none => False)
      | none => False)
    | none => False) xe
  | _ => False) xe
theorem strOk_iff (x : Str) : PyData.strOk x = true ↔ ∀ c ∈ x.cps.toList, PyData.strOk ⟨#[c]⟩ = true := by
  unfold PyData.strOk
  rw [Array.all_eq_true_iff_forall_mem]
  constructor
  · intro h c hc
    have := h c (by simpa using hc)
    simpa using this
  · intro h c hc
    have := h c (by simpa using hc)
    simpa using this
theorem glue_list (z : Str) : ∀ (ps : List Str) (acc : Array Nat), (ps.foldl (fun acc p => acc ++ z.cps ++ p.cps) acc).toList = acc.toList ++ (ps.map fun p => z.cps.toList ++ p.cps.toList).flatten
  | [], acc => by simp
  | p :: ps, acc => by
    rw [List.foldl_cons, glue_list z ps]
    simp
/-- the codes of a join -/
theorem join_list (z : Str) (ys : List Str) : (Txt.join z ys).cps.toList = (ys.headD Str.empty).cps.toList ++ ((ys.drop 1).map fun p => z.cps.toList ++ p.cps.toList).flatten := glue_list z (ys.drop 1) (ys.headD Str.empty).cps
theorem join_cps (z : Str) (ys : List Str) (c : Nat) (hc : c ∈ (Txt.join z ys).cps.toList) : c ∈ z.cps.toList ∨ ∃ y ∈ ys, c ∈ y.cps.toList := by
  rw [join_list] at hc
  rcases List.mem_append.mp hc with hc | hc
  · cases ys with
    | nil => exact absurd hc (by show ¬ c ∈ (Str.empty).cps.toList; simp [Str.empty])
    | cons y ys => exact .inr ⟨y, List.mem_cons_self, hc⟩
  · obtain ⟨l, hl, hc⟩ := List.mem_flatten.mp hc
    obtain ⟨y, hy, rfl⟩ := List.mem_map.mp hl
    rcases List.mem_append.mp hc with hc | hc
    · exact .inl hc
    · exact .inr ⟨y, List.mem_of_mem_drop hy, hc⟩
theorem strOk_join {z : Str} {ys : List Str} (hz : PyData.strOk z = true) (hy : ys.all PyData.strOk = true) : PyData.strOk (Txt.join z ys) = true := by
  rw [strOk_iff]
  intro c hc
  rcases join_cps z ys c hc with h | ⟨y, hm, h⟩
  · exact (strOk_iff z).mp hz c h
  · exact (strOk_iff y).mp (List.all_eq_true.mp hy y hm) c h
section
variable {X : Cx} {Wx : WX} {k : Nat} {a b c e o : Expr} {wa wb wc we wo : DEx} {pos p2 apos cpos : Pos} {es : List Expr} {ws : DA}
theorem rpL_strs_inv {K : Fg} {G : Hp} : ∀ {ys : List Str} {vs : List V}, RpL K G vs (ys.map PyData.str) → vs = ys.map V.str ∧ ys.all PyData.strOk = true
  | [], _, h => by cases h; exact ⟨rfl, rfl⟩
  | y :: ys, _, h => by
    cases h with
    | cons h1 h2 =>
      cases h1 with
      | str _ ok =>
        obtain ⟨e, o⟩ := rpL_strs_inv h2
        exact ⟨by rw [e]; rfl, by rw [List.all_cons, ok, o]; rfl⟩
theorem de_join (ho : DE X Wx o wo) (ha : DE X Wx e we) (hs : starEach [e] X.env = [(false, eval e X.env)] := by rfl) (hbase : attributeBase o "join" X.env (eval o X.env) = eval o X.env := by rfl) (hline : (apos.endLine == pos.line) = true := by rfl) :
    DE X Wx (.Call (.Attribute o "join" apos) [e] [] pos) (dJoin wo we) := by
  refine pe_imp (fun σ H Q ⟨G, α, Γ, O, R, xe, sl, rel, h, p, xp⟩ => ?_) (pe_join ho ha hs hbase hline)
  refine ⟨G, α, Γ, O, _, xe, sl, rel, h, fun x O1 h1 v G1 α1 H1 e1 p1 rel1 r1 => ?_, xp⟩
  dsimp only at h1
  split at h1
  · next z =>
    cases r1 with
    | str _ oz =>
      refine ⟨⟨z, rfl⟩, G1, α1, Γ, O1, _, xe, sl.mono e1 p1, rel1, h1, fun y O2 h2 u G2 α2 H2 e2 p2 rel2 r2 => ?_, xp.mono e1 p1⟩
      dsimp only at h2
      split at h2
      · next ws ew =>
        split at h2
        · next ds ed =>
          split at h2
          · next ys ey =>
            obtain ⟨a, us, rfl, hs, ra⟩ := asS_ok rel2 r2 ew
            rw [datas_eq ed, strsD_eq ey] at ra
            obtain ⟨eu, ok⟩ := rpL_strs_inv ra.toD
            subst eu
            exact ⟨z, a, ys, rfl, rfl, hs, Nat.le_trans h2.1 (by decide), p _ _ h2.2 _ _ _ _ (e1.trans e2) (p1.trans p2) rel2 (.str _ (strOk_join oz ok))⟩
          · exact h2.elim
        · exact h2.elim
      · exact h2.elim
  · exact h1.elim
/-! #### a op b op' c -/
def dChain (f f' : D2) (wa wb wc : DEx) : DEx := fun Γ O R xe => wa Γ O (fun x O1 => wb Γ O1 (fun y O2 => f x y O2 fun z O3 => match z with
  | .d (.bool t) => if t = true then wc Γ O3 (fun w O4 => f' y w O4 R) xe else R (.d (.bool false)) O3
  | _ => False) xe) xe
/-! #### methods of tuples -/
def dTM (f : DM) (wo : DEx) (ws : DA) : DEx := fun Γ O R xe => wo Γ O (fun o O1 => match o with
  | .d (.tuple ds) => ws Γ O1 (fun xs O2 => f (.d (.tuple ds)) xs O2 R) xe
  | _ => False) xe
/-! #### < and the like, of any alike data -/
def rLtD (K : Fg) (g : PyData → PyData → Bool) : R2 := fun x y H Q => ∃ d e, Dp K H x d ∧ Dp K H y e ∧ PySem.W.alike d e = true ∧ d ≠ .none ∧ d.depth ≤ 64 ∧ Q (.bl (g d e)) H
theorem op_ltD (hu : X.A.units + 100 < cLine) : OpR X (compareOp .Lt) (rLtD X.K fun d e => PySem.W.dataLt d e) := by
  intro pins s σ H x y v u Q I rx ry ⟨d, e, hd, he, al, hn, hz, q⟩
  obtain ⟨as, r1⟩ := Dp.reads I d x v hd rx
  obtain ⟨bs, r2⟩ := Dp.reads I e y u he ry
  exact PySem.W.lt_data r1 r2 al hn (by have := Nat.min_le_left d.depth e.depth; omega) ⟨.bl (PySem.W.dataLt d e), H, I, rfl, q⟩
theorem op_gtD (hu : X.A.units + 100 < cLine) : OpR X (compareOp .Gt) (rLtD X.K fun d e => PySem.W.dataLt e d) := by
  intro pins s σ H x y v u Q I rx ry ⟨d, e, hd, he, al, hn, hz, q⟩
  obtain ⟨as, r1⟩ := Dp.reads I d x v hd rx
  obtain ⟨bs, r2⟩ := Dp.reads I e y u he ry
  exact PySem.W.gt_data r1 r2 al hn (by have := Nat.min_le_left d.depth e.depth; omega) ⟨.bl (PySem.W.dataLt e d), H, I, rfl, q⟩
def dLtD (g : PyData → PyData → Bool) : D2 := fun x y O R => match asD x O, asD y O with
  | some d, some e => shp 40 d = true ∧ shp 40 e = true ∧ PySem.W.alike d e = true ∧ isNone (.d d) = false ∧ R (.d (.bool (g d e))) O
  | _, _ => False
theorem s_ltD {K : Fg} {mg : Str → Option Value} {g : PyData → PyData → Bool} : OpS K mg (dLtD g) (rLtD K g) := by
  intro G α O H x y u v R Q rel r1 r2 h p
  unfold dLtD at h
  split at h
  · next d e e1 e2 =>
    obtain ⟨d1, _⟩ := asD_ok rel r1 e1 h.1
    obtain ⟨d2, _⟩ := asD_ok rel r2 e2 h.2.1
    refine ⟨d, e, d1, d2, h.2.2.1, fun z => ?_, Nat.le_trans (shp_depth 40 d h.1) (by decide), p.here h.2.2.2.2 rel (.bl _)⟩
    rw [z] at h
    exact absurd h.2.2.2.1 (by simp [isNone])
  · exact h.elim
end
end Dl
namespace Dl
open PySem PySem.Spec PyProof.Rows L2
variable [TabsC]
/-! #### enumerate(tuple), at the machine -/
set_option maxHeartbeats 1000000 in
theorem meets_enum1 {v : Value} {o : Obj} {Hh : Heap → Prop} (B : Begins v o Hh) :
    Meets (Builtin.«enumerate.__new__» ⟨[.type "enumerate", v], []⟩) (fun _ R s => Hh s.heap ∧
      R (.ok (.ret (.ref (s.heap.push o).objs.size))) { s with heap := (s.heap.push o).push { cls := .type "enumerate", data := .fields #[.none, .bool false, .ref s.heap.objs.size, rawInt 0, .none, .none] } }) :=
  .of_wp fun prog w A R s h => by
    obtain ⟨hp, gs, dr, tk, os⟩ := s
    obtain ⟨h1, h⟩ := h
    have hsub := sub_enumerate
    have it1 : ∀ {A' : Around} {E : Value → Shared → Prop} {Q : Value → Shared → Prop}, Q (.ref hp.objs.size) ⟨hp.push o, gs, dr, tk, os⟩ → wpAny (model prog w) A' (pyIter v) Q E ⟨hp, gs, dr, tk, os⟩ :=
      fun q => B.iter prog w _ _ ⟨hp, gs, dr, tk, os⟩ _ h1 q
    wp_walk using it1
    refine wpAny_stack_any fun st => wpAny_pure ?_
    split
    · rename_i c _ _ _ _ _
      cases (c == Value.type "enumerate")
      · wp_walk using it1
        exact ⟨_, rfl, h⟩
      · wp_walk using it1
        exact ⟨_, rfl, h⟩
    · wp_walk using it1
      exact ⟨_, rfl, h⟩
section
variable {prog : Program} {w : World} {A : Around} {E : Value → Shared → Prop} {s : Shared}
theorem enum_call {v : Value} {o : Obj} {Hh : Heap → Prop} {Q : Value → Shared → Prop} (B : Begins v o Hh) (h1 : Hh s.heap)
    (h : ∀ h', IsEnum h' (s.heap.objs.size + 1) s.heap.objs.size 0 .none → h'.get? s.heap.objs.size = some o → (∀ b ob, s.heap.get? b = some ob → h'.get? b = some ob) → Q (.ref (s.heap.objs.size + 1)) { s with heap := h' }) :
    wpAny (model prog w) A (call (.type "enumerate") [v]) Q E s := by
  refine callType_new F.called_enumerate (by decide) (F.typeCall_enumerate_1 _) (F.newCall_enumerate_1 _) (fun obj => F.args_object_init_2 obj _) F.entry_enumerate_new (meets_enum1 B) ⟨h1, ?_⟩
  have z : (s.heap.push o).objs.size = s.heap.objs.size + 1 := Heap.size_push ..
  show _ ∧ _
  rw [z]
  have he : IsEnum ((s.heap.push o).push { cls := .type "enumerate", data := .fields #[.none, .bool false, .ref s.heap.objs.size, rawInt 0, .none, .none] }) (s.heap.objs.size + 1) s.heap.objs.size 0 .none := by
    have q := Heap.get?_push_size (s.heap.push o) (o := { cls := .type "enumerate", data := .fields #[.none, .bool false, .ref s.heap.objs.size, rawInt 0, .none, .none] }) rfl
    rwa [z] at q
  exact ⟨⟨_, he, rfl⟩, h _ he (Heap.get?_push_of_some _ (Heap.get?_push_size _ B.free)) fun b ob x => Heap.get?_push_of_some _ (Heap.get?_push_of_some _ x)⟩
end
/-- the tuple at a, each item in a new pair with its number -/
def IteT (K : Fg) (a : Addr) : It :=
  ⟨fun i H => ∃ (xs : List V) (x : V), SqT K H a xs ∧ xs[i]? = some x, fun i H v H' => ∃ T x, v = .ref T ∧ H T = none ∧ H' = upd H T (.tup [.int (i : Nat), x]) ∧ ∀ xs, SqT K H a xs → xs[i]? = some x, fun i H => ∃ xs : List V, SqT K H a xs ∧ xs.length ≤ i⟩
theorem turn_enumT {P : Program} {w : World} {K : Fg} {elts : List Expr} {kk : Nat} {tpos : Pos} (a e it : Addr) :
    Turn P w K (.Tuple elts kk tpos) (IteT K a) [e, it] e (fun i h => (∃ old, IsEnum h e it ((i : Nat) : Int) old) ∧ h.IsTupleIter it a i ∧ e ≠ it ∧ e ≠ a ∧ a ≠ it) where
  mem := by simp
  obj := fun i h st b hb => by
    obtain ⟨⟨old, he⟩, ⟨o, ho, hc, hd⟩, _⟩ := st
    have e' : b = e ∨ b = it := by simpa using hb
    rcases e' with z | z
    · subst z; exact ⟨_, he, fun v q => nomatch q⟩
    · subst z; exact ⟨o, ho, fun v q => by rw [hd] at q; cases q⟩
  keep := fun i h h' st k => by
    obtain ⟨⟨old, he⟩, hi, hr⟩ := st
    exact ⟨⟨old, k e (by simp) _ he⟩, hi.at fun o q => k it (by simp) o q, hr⟩
  item := by
    intro X hP hw hK hc i pins s σ H E I hf st hg
    subst hP hw hK
    obtain ⟨⟨old, he⟩, hit, hne, hea, hai⟩ := st
    obtain ⟨xs, x, hq, hx⟩ := hg
    obtain ⟨its, rv, p, hz⟩ := I.tuple hq
    obtain ⟨u, hu, ru⟩ := rv.get hx
    have hlt : i < its.toArray.size := by
      rw [List.size_toArray]
      exact (List.getElem?_eq_some_iff.mp hu).1
    have hel : e < s.heap.objs.size := Heap.lt_size he
    have hil : it < s.heap.objs.size := by obtain ⟨_, q, _⟩ := hit; exact Heap.lt_size q
    have D : Draws X.prog X.w X.A.in1 it [it, a] its.toArray.size (fun i v => its.toArray[i]? = some v) (fun i h => h.IsTupleIter it a i ∧ h.IsTuple a its.toArray) := Draws.tuple (show X.A.in1.handled = none from I.ok.hd hc) it a hai its.toArray
    refine wpAny_pyNext_enum_itemC D he ⟨hit, p⟩ hlt hne (by simp [hne, hea]) fun y h' tk py ho st' hT hsz hk => ?_
    have ey : y = u := by
      have : its.toArray[i]? = some u := by simpa using hu
      rw [this] at py
      exact (Option.some.inj py).symm
    subst ey
    refine ⟨_, rfl, wpAny_letOwnedTupleGo_enum (s := { s with heap := h', toks := tk + 1 }) ho fun h'' he' sb => ?_⟩
    have hT2 : h''.get? s.heap.objs.size = some { cls := .type "tuple", data := .seq #[.int i tk, y] } := (sb.2 _ (Nat.ne_of_gt hel)).trans hT
    have new : ObjOk X.prog X.w (upd H s.heap.objs.size (.tup [.int (i : Nat), x])) h'' s.heap.objs.size (.tup [.int (i : Nat), x]) :=
      ⟨by show 2 ≤ sizeLine; decide, [.int i tk, y], .cons ⟨_, rfl⟩ (.cons ru .nil), ⟨_, hT2, rfl, _, rfl⟩⟩
    have I1 : Inv X pins σ (upd H s.heap.objs.size (.tup [.int (i : Nat), x])) { s with heap := h'', toks := tk + 1 } :=
      I.turnedNew (ch := [e, it]) (fun b ob hb q => (sb.2 b (fun z => hb (by simp [z]))).trans (hk b ob (fun z => hb (by simp [z])) (fun z => hb (by simp [z])) q)) hf (Nat.le_refl _) new
    refine ⟨.ref s.heap.objs.size, _, I1, rfl, ⟨_, x, rfl, I.hok.fresh (Nat.le_refl _), rfl, fun ys hy => by rw [I.tuple_inj hy hq]; exact hx⟩, ⟨⟨y, ?_⟩, st'.1.at fun o q => (sb.2 it (Ne.symm hne)).trans q, hne, hea, hai⟩, fun b hb => ?_⟩
    · have e1 : ((i + 1 : Nat) : Int) = (i : Int) + 1 := by omega
      rw [e1]
      exact he'
    · have hb' : b < s.heap.objs.size := by
        have e' : b = e ∨ b = it := by simpa using hb
        rcases e' with z | z
        · subst z; exact hel
        · subst z; exact hil
      rw [upd_ne (Nat.ne_of_lt hb')]
      exact (hf b hb).1
  done := by
    intro X hP hw hK hc i pins s σ H E I hf st hg
    subst hP hw hK
    obtain ⟨⟨old, he⟩, hit, hne, hea, hai⟩ := st
    obtain ⟨xs, hq, hx⟩ := hg
    obtain ⟨its, rv, p, hz⟩ := I.tuple hq
    have hl := rv.length
    have hle : its.toArray.size ≤ i := by rw [List.size_toArray, ← hl]; exact hx
    have fi := hf it (by simp)
    have stop : wpAny (model X.prog X.w) X.A (pyNext (.ref e)) (fun r s1 => r = none ∧ Inv X pins σ H s1) E s := by
      have hT : s.TypeIs (.ref e) "enumerate" := ⟨_, he, rfl⟩
      unfold pyNext
      refine wpAny_bind (wpAny_attempt (wpAny_callSpecial?_slot (name := Str.ofString "__next__") hT F.slot_enumerate_next
        (wpAny_call_entry F.slot_enumerate_next hT F.entry_enumerate_next ?_ (F.args_enumerate_next_1 _))))
      show wpAny _ _ (field (.ref e) 2 >>= _) _ _ _
      refine wpAny_bind (wpAny_field he rfl (x := .ref it) rfl ?_)
      refine wpAny_bind (wpAny_nextOf_tuple_end (I.ok.hd hc) hit p (by simpa using hle) fun h' x he' hx' => ?_)
      obtain ⟨o, ho, hcl⟩ := hx'
      refine wpAny_bind (wpAny_isInstance (T := "StopIteration") (b := true) ⟨o, ho, hcl⟩ isSubtype_stop ?_)
      exact wpAny_pure ⟨rfl, I.turned (t' := s.toks) (fun b o hb q => he' b o hb q) fi.1 fi.2.1 fi.2.2.2.1 fi.2.2.2.2.1 fi.2.2.2.2.2⟩
    exact stop
  self := fun A i s Q E st h => by
    obtain ⟨⟨_, he⟩, _⟩ := st
    exact wpAny_pyIter_enum he h
def iEnumA (K : Fg) (ta : TA) : TI := fun σ H R => ta σ H fun vs H1 => ∃ a xs, vs = [.ref a] ∧ ((SqL K H1 a xs ∧ R (Ite K a) H1) ∨ (SqT K H1 a xs ∧ R (IteT K a) H1))
theorem pi_enumA {X : Cx} {e : Expr} {ta : TA} {p pos tpos : Pos} {elts : List Expr} {kk : Nat} (hg : Gl X "enumerate") (hm : X.mg "enumerate" = none) (ha : PA X [e] ta) (hs : starEach [e] X.env = [(false, eval e X.env)] := by rfl) :
    PI X (.Tuple elts kk tpos) (.Call (.Name "enumerate" p) [e] [] pos) (iEnumA X.K ta) := by
  refine ⟨fun pins s σ H R I h => ?_⟩
  refine Call_ (ld_blt I hg hm boot_enumerate (PyProof.Rows.callWith_type1 (thn (ha.run pos pins s σ H _ I h) fun us s1 ⟨vs, H1, I1, r1, q1⟩ => ?_) hs rfl))
  obtain ⟨a, xs, ex, q1⟩ := q1
  subst ex
  obtain rfl := Vals.ref1 r1
  have two : ∀ b, b ∈ [s1.heap.objs.size + 1, s1.heap.objs.size] → FpOk X pins H1 b := fun b hb => by
    have e' : b = s1.heap.objs.size + 1 ∨ b = s1.heap.objs.size := by simpa using hb
    have hle : s1.heap.objs.size ≤ b := by
      rcases e' with z | z
      · rw [z]; exact Nat.le_succ _
      · rw [z]; exact Nat.le_refl _
    exact I1.fpOk hle (I1.hok.fresh hle)
  rcases q1 with ⟨hq, q⟩ | ⟨hq, q⟩
  · obtain ⟨its, rv, p', hz⟩ := I1.list hq
    refine call_enumerate_list p'.isList fun h' he hit hsz hk => wpAny_pyIter_enum he ?_
    have I2 : Inv X pins σ H1 { s1 with heap := h' } := I1.kept (t' := s1.toks) hk
    exact ⟨s1.heap.objs.size + 1, [s1.heap.objs.size + 1, s1.heap.objs.size], _, _, H1, rfl, I2, turn_enum a (s1.heap.objs.size + 1) s1.heap.objs.size, ⟨⟨.none, he⟩, hit, Nat.succ_ne_self _⟩, two, q⟩
  · obtain ⟨its, rv, p', hz⟩ := I1.tuple hq
    have hal : a < s1.heap.objs.size := by obtain ⟨o, ho, _⟩ := id p'; exact Heap.lt_size ho
    refine enum_call (begins_tuple a its.toArray) (show s1.heap.IsTuple a its.toArray from p') fun h' he hit hk => wpAny_pyIter_enum he ?_
    have I2 : Inv X pins σ H1 { s1 with heap := h' } := I1.kept (t' := s1.toks) hk
    exact ⟨s1.heap.objs.size + 1, [s1.heap.objs.size + 1, s1.heap.objs.size], _, _, H1, rfl, I2, turn_enumT a (s1.heap.objs.size + 1) s1.heap.objs.size, ⟨⟨.none, he⟩, ⟨_, hit, rfl, rfl⟩, Nat.succ_ne_self _, Nat.ne_of_gt (Nat.lt_succ_of_lt hal), Nat.ne_of_lt hal⟩, two, q⟩
/-! #### enumerate, over data -/
def enumW (n : Nat) : List PyData → List W
  | [] => []
  | d :: r => .p [.int (n : Nat), d] :: enumW (n + 1) r
/-- what is walked never changes -/
def asFz : W → Option (List PyData)
  | .d (.list ds) => some ds
  | .d (.tuple ds) => some ds
  | _ => none
def dEnum (ws : DA) : DI := fun Γ O S xe => ws Γ O (fun xs O1 => match xs with
  | [x] => (match asFz x with
    | some ds => S (enumW 0 ds) (fun _ => True) O1
    | none => False)
  | _ => False) xe
section
variable {X : Cx} {Wx : WX} {k : Nat} {a b c e o : Expr} {wa wb wc we wo : DEx} {pos p2 : Pos} {ws : DA}
/-! #### zip of two, alike lists or tuples of data -/
def zipW : List PyData → List PyData → List W
  | d :: r, e :: t => .p [d, e] :: zipW r t
  | _, _ => []
end
end Dl
namespace Dl
open PySem PySem.Spec PyProof.Rows L2
variable [TabsC]
/-! #### the base's __init__, read off an own class that has none -/
structure BaseC (K : Fg) (mg : Str → Option Value) (nm : Str) : Prop where
  ex : ∃ (B : Addr) (mc : Value), mg nm = some (.ref B) ∧ ClX.CRead K B mc ∧ PySem.W.findCls K (.ref B) mc "__init__" = some (.val (.builtin "ValueError.__init__"))
section
variable {X : Cx} {o e : Expr} {es : List Expr} {to te : TE} {ta : TA} {f nm : Str} {p p' p1 p2 pos : Pos}
theorem pe_leinit {pl : Sem Bool} (hg : Gl X nm) (T : BaseC X.K X.mg nm) (ha : PA X (e :: es) ta) (hdb : (nm == ("__debug__" : Str)) = false := by decide)
    (hc : eval (.Call (.Attribute (.Name nm p1) "__init__" p2) (e :: es) [] pos) X.env = (do
      let ov ← eval (.Name nm p1) X.env
      standAt p2.atName
      let (f, first) ← holding [ov] (getMethod ov "__init__" pl)
      callWith pos f first (backTo pos (starEach (e :: es) X.env)) (backToKw pos (keywordEach [] X.env))) := by rfl)
    (he : starEach (e :: es) X.env = (false, eval e X.env) :: starEach es X.env := by rfl) (hpl : (backTo pos (starEach es X.env)).any (·.1) = false := by rfl) :
    PE X (.Call (.Attribute (.Name nm p1) "__init__" p2) (e :: es) [] pos) (tVeI X.K ta) := by
  obtain ⟨B, mc, hm, rd, hv⟩ := T.ex
  refine ⟨fun pins s σ H Q I h => ?_⟩
  refine PySem.W.methodCall_KW (ld_glob I hg hm ?_ hdb) hc
  refine PySem.W.method_cls I.kIn rd.ga (PySem.W.cls_value I.kIn rd.rd hv (by decide +kernel) ?_)
  show wpAny _ _ (callWith pos (Value.builtin "ValueError.__init__") [] (backTo pos (starEach (e :: es) X.env)) []) _ _ _
  refine PyProof.Rows.callWith_method1 (thn (ha.run pos pins _ σ H _ (I.tok _) h) fun us s1 ⟨vs, H1, I1, r1, a, C, ws, ev, hl, T, ea, q⟩ => ?_) he hpl
  subst ev
  cases r1 with
  | @cons _ u0 _ ur ra rw' =>
    obtain rfl : u0 = Value.ref a := ra
    have hz : ur.length ≤ sizeLine := by
      rw [← Paired.length rw', sizeLine_eq]
      omega
    exact oinit_ok T I1 ea hz fun s' J => ⟨.non, H1, J, rfl, q⟩
end
/-! #### what __init__ leaves of a new exception -/
def spIni (K : Fg) (fs : List Str) : Sp := fun vs H Q _ => ∃ (a C : Addr) (us : List V), vs = .ref a :: us ∧ us.length = fs.length ∧ OexC K C ∧ (∀ f ∈ fs, PySem.W.findIn K (.ref C) f = some none) ∧ H a = some (exo a C none) ∧
  ∀ d, H d = none → d ≠ a → Q .non (upd (upd H d (exd d (fs.zip us).reverse)) a (exo a C (some d)))
theorem upd_swap {H : Hp} {a d : Addr} {o u v w : HO} (h : d ≠ a) : upd (upd (upd H d o) a u) d w = upd (upd H d w) a u := by
  funext b
  by_cases hb : b = d
  · subst hb
    rw [upd_same, upd_ne h, upd_same]
  · by_cases ha : b = a
    · subst ha
      rw [upd_ne hb, upd_same, upd_same]
    · rw [upd_ne hb, upd_ne ha, upd_ne hb, upd_ne ha, upd_ne hb]
section
variable {P : Program} {w : World} {K : Fg} {mg : Str → Option Value} {base : Heap}
theorem ini1 {f1 : Str} {vs : List V} {H : Hp} {Q : VK} {E : XK} {N : List Str} {m : Str} (hN : N.length = 2) (h : spIni K [f1] vs H Q E) :
    tSeq (tDrop (tVeI K (tCons (tVar 0) (tCons (tC (.str m)) tNil)))) (tOst K f1 (tVar 0) (tVar 1)) { nx := fun _ H' => Q .non H', rt := Q } (L2.start N vs) H := by
  obtain ⟨a, C, us, rfl, hl, T, hno, ha, q⟩ := h
  match us, hl with
  | [u1], _ =>
    have e0 : (L2.start N [V.ref a, u1])[0]? = some (some (V.ref a)) := by unfold L2.start; simp
    have e1 : (L2.start N [V.ref a, u1])[1]? = some (some u1) := by unfold L2.start; simp
    refine ⟨_, e0, a, C, [.str m], rfl, by show 1 ≤ 1000; decide, T, ha, ?_⟩
    refine ⟨_, e1, _, e0, a, C, rfl, T, hno f1 (by simp), .inl ⟨ha, fun dx hd hne => ?_⟩⟩
    exact q dx hd hne
theorem ini2 {f1 f2 : Str} {vs : List V} {H : Hp} {Q : VK} {E : XK} {N : List Str} {m : Str} (hN : N.length = 3) (h : spIni K [f1, f2] vs H Q E) :
    tSeq (tDrop (tVeI K (tCons (tVar 0) (tCons (tC (.str m)) tNil)))) (tSeq (tOst K f1 (tVar 0) (tVar 1)) (tOst K f2 (tVar 0) (tVar 2))) { nx := fun _ H' => Q .non H', rt := Q } (L2.start N vs) H := by
  obtain ⟨a, C, us, rfl, hl, T, hno, ha, q⟩ := h
  match us, hl with
  | [u1, u2], _ =>
    have e0 : (L2.start N [V.ref a, u1, u2])[0]? = some (some (V.ref a)) := by unfold L2.start; simp
    have e1 : (L2.start N [V.ref a, u1, u2])[1]? = some (some u1) := by unfold L2.start; simp
    have e2 : (L2.start N [V.ref a, u1, u2])[2]? = some (some u2) := by unfold L2.start; simp
    refine ⟨_, e0, a, C, [.str m], rfl, by show 1 ≤ 1000; decide, T, ha, ?_⟩
    refine ⟨_, e1, _, e0, a, C, rfl, T, hno f1 (by simp), .inl ⟨ha, fun dx hd hne => ?_⟩⟩
    refine ⟨_, e2, _, e0, a, C, rfl, T, hno f2 (by simp), .inr ⟨dx, [(f1, u1)], upd_same, by rw [upd_ne hne, upd_same], by show 1 ≤ 900; decide, ?_⟩⟩
    have := q dx hd hne
    show Q .non (upd (upd (upd H dx (exd dx [(f1, u1)])) a (exo a C (some dx))) dx (exd dx [(f2, u2), (f1, u1)]))
    rw [upd_swap (v := .lst []) hne]
    exact this
end
/-! #### an exception with an __init__ of its own, made where nothing is handled: its context is None -/
section
variable {X : Cx} {e : Expr} {es : List Expr} {ta : TA} {p pos : Pos}
theorem pmkN_oex {CX : CXT} {x : Str} {C fI : Addr} {k : Nat} {fd : FuncData} {ps : List Str} {sp : Sp} {ds : List Value} {dvs : List V} (T : OexC X.K C) (iC : PySem.W.findIn X.K (.ref C) "__init__" = some (some (.ref fI))) (tI : PySem.W.typeIn X.K (.ref fI) = some (.type "function"))
    (F1 : FnOk X.prog X.w X.K X.mg X.base CX k fI fd ps sp) (hr : Room (k + 1) X.A) (hb : Binds X.K fd ps ds) (hd : Vals dvs ds) (hx : Passes CX X (fun _ _ _ => False)) (hg : Gl X x) (hm : X.mg x = some (.ref C)) (ha : PA X (e :: es) ta)
    (hdb : (x == ("__debug__" : Str)) = false := by decide) (he : starEach (e :: es) X.env = (false, eval e X.env) :: starEach es X.env := by rfl) (hpl : (backTo pos (starEach es X.env)).any (·.1) = false := by rfl) :
    L2N.PMk X (.Call (.Name x p) (e :: es) [] pos) (tMkO C sp dvs ta) := by
  intro pins s σ H Q I h
  obtain ⟨nm, q, N, bs, bm, sn, sub, ab, col, dd, k0, k1, k2, k3, k5, hC, hbm⟩ := T.cls
  refine wpAny_Call_Name_kw (ld_glob I hg hm ?_ hdb)
  refine PySem.W.callWith_K (h₀ := X.base) I.ok.mod.kin T.kC (thn (ha.run pos pins s σ H _ I h) fun us s1 ⟨vs, H1, I1, r1, hz, q1⟩ => ⟨I1.kIn, ?_⟩) he hpl
  show wpAny _ _ (call (.ref C) us) _ _ _
  obtain ⟨hp, g, dr, tk, os⟩ := s1
  have hsz : hp.objs.size ≤ hp.objs.size + 1 := Nat.le_succ _
  have hn : H1 (hp.objs.size + 1) = none := I1.hok.fresh hsz
  have hq := q1 (hp.objs.size + 1) hn
  have kk : ∀ b o, hp.get? b = some o → ((hp.push (PySem.W.kdv_tup us)).push (PySem.HandSPX.excO C hp.objs.size)).get? b = some o := fun b o e => Heap.get?_push_of_some _ (Heap.get?_push_of_some _ e)
  have hget : ((hp.push (PySem.W.kdv_tup us)).push (PySem.HandSPX.excO C hp.objs.size)).get? (hp.objs.size + 1) = some (PySem.HandSPX.excO C hp.objs.size) := by heap_get
  have I2 : Inv X pins σ (upd H1 (hp.objs.size + 1) (exo (hp.objs.size + 1) C none)) ⟨(hp.push (PySem.W.kdv_tup us)).push (PySem.HandSPX.excO C hp.objs.size), g, dr, tk, os⟩ :=
    I1.laid (t' := tk) (a := hp.objs.size + 1) (o := exo (hp.objs.size + 1) C none) (h' := (hp.push (PySem.W.kdv_tup us)).push (PySem.HandSPX.excO C hp.objs.size)) kk hsz (exo_ok hget)
  have r2 : Vals (V.ref (hp.objs.size + 1) :: (vs ++ dvs)) (Value.ref (hp.objs.size + 1) :: (us ++ ds)) := .cons rfl (r1.append hd)
  have hl : (Value.ref (hp.objs.size + 1) :: us ++ ds).length = ps.length := by
    have e := r2.length
    rw [F1.len _ _ _ _ hq] at e
    exact e.symm
  have hus : us.length ≤ sizeLine := by
    rw [← Paired.length r1, sizeLine_eq]
    omega
  refine wpAny_call (PySem.HandSPX.call_own F.excBase_ValueError (fun Y => PySem.HandSPX.refsVE_contains Y bm hbm) (I1.kIn _ _ hC) (PySem.W.looks_findIn I1.kIn iC) (fun self => PySem.W.bind_fn I1.kIn self tI) hus
    (codeAny_mono (F1.run _ X.stack _ _ ⟨Value.ref (hp.objs.size + 1) :: us, []⟩ (Value.ref (hp.objs.size + 1) :: (us ++ ds)) _ _ (fun _ _ _ => False) (hr.make C us []) (I2.env0.make C us []) (hb _ (Value.ref (hp.objs.size + 1) :: us) I2.kIn hl) r2 hq) fun r s' hq' => ?_))
  cases r with
  | error er => exact hx pins σ _ _ er s' I2 hq'
  | ok fl =>
    cases fl with
    | ret u =>
      obtain ⟨v, H2, os2, bare2, un2, hok2, rv, ev, d, fs, ea, ed, hd1, q2⟩ := hq'
      subst ev
      obtain ⟨h2, g2, d2, t2, os'⟩ := s'
      obtain ⟨t0, G, J, kG, ge, hoe, na⟩ := mk_end0 (d2 := d2) (t2 := t2) I1 hsz kk un2 hok2 os2 bare2 ea ed hd1
      refine ⟨rv, ⟨hp.objs.size + 1, _, _, ⟨G, g2, d2, t2, os'⟩, _, .ref C, some d, rfl, J, kG, ge, hoe, ⟨rfl, rfl, fun vs hv => ?_⟩, rfl, rfl, na, rfl, bare2, raises_own T.exC T.tyC, q2⟩⟩
      cases hv
      rfl
    | next => exact False.elim hq'
    | brk => exact False.elim hq'
    | cont => exact False.elim hq'
end
/-! #### what is known of an exception's class -/
/-- without an __init__ of its own -/
structure XC0 (K : Fg) (mg : Str → Option Value) (nm : Str) : Prop where
  ex : ∃ (C : Addr), mg nm = some (.ref C) ∧ PySem.W.excIn K C [.type "ValueError", .type "Exception", .type "BaseException", .type "object"] "ValueError.__new__" = true ∧
    PySem.W.keepIn K (.ref C) = true ∧ PySem.W.subIn K (.ref C) (.type "BaseException") = some true ∧ PySem.W.typeIn K (.ref C) = some (.type "type")
/-- with an __init__ that keeps its fields -/
structure XCF (P : Program) (w : World) (K : Fg) (mg : Str → Option Value) (base : Heap) (nm : Str) (fs : List Str) : Prop where
  ex : ∃ (C fI : Addr) (fd : FuncData) (ps : List Str), mg nm = some (.ref C) ∧ OexC K C ∧ PySem.W.findIn K (.ref C) "__init__" = some (some (.ref fI)) ∧ PySem.W.typeIn K (.ref fI) = some (.type "function") ∧
    FnOk P w K mg base CX0 1 fI fd ps (spIni K fs) ∧ Binds K fd ps [] ∧ XfC K C ∧ (∀ f ∈ fs, PySem.W.findIn K (.ref C) f = some none)
section
variable {X : Cx} {Wx : WX} {k : Nat} {a b c e o : Expr} {wa wb wc we wo : DEx} {pos p2 p : Pos} {ws : DA} {es : List Expr}
/-- raise C('..') -/
def dRaise0 (nm : Str) : DSt := fun _ xe Γ O => xe ⟨nm, []⟩ Γ O
/-- raise C(e, ..), fields of these names -/
def dRaiseF (nm : Str) (fs : List Str) (ws : DA) : DSt := fun _ xe Γ O => ws Γ O (fun vs O1 => match datas vs with
  | some ds => ds.length = fs.length ∧ xe ⟨nm, (fs.zip ds).reverse⟩ Γ O1
  | none => False) xe
theorem zip_ne {fs : List Str} {ds : List PyData} (h : fs ≠ []) (e : ds.length = fs.length) : (fs.zip ds).reverse ≠ [] := fun z => by
  have := congrArg List.length z
  rw [List.length_reverse, List.length_zip, e] at this
  cases fs with
  | nil => exact h rfl
  | cons f r => simp at this
theorem zip_paired {G : Hp} : ∀ {fs : List Str} {vs : List V} {ds : List PyData}, vs.length = fs.length → RpL X.K G vs ds → Paired (fun (p : Str × V) (q : Str × PyData) => p.1 = q.1 ∧ Rp X.K G p.2 q.2) (fs.zip vs) (fs.zip ds)
  | [], [], _, _, h => by cases h; exact .nil
  | f :: fs, v :: vs, _, e, h => by
    cases h with
    | cons h1 h2 => exact .cons ⟨rfl, h1⟩ (zip_paired (by simpa using e) h2)
theorem paired_app {α β : Type} {F : α → β → Prop} : ∀ {a : List α} {b : List β} {c : List α} {d : List β}, Paired F a b → Paired F c d → Paired F (a ++ c) (b ++ d)
  | _, _, _, _, .nil, h => h
  | _, _, _, _, .cons r t, h => .cons r (paired_app t h)
theorem paired_rev {α β : Type} {F : α → β → Prop} : ∀ {a : List α} {b : List β}, Paired F a b → Paired F a.reverse b.reverse
  | _, _, .nil => .nil
  | _, _, .cons r t => by
    rw [List.reverse_cons, List.reverse_cons]
    exact paired_app (paired_rev t) (.cons r .nil)
/-! #### try .. except C: suite; .. as n -/
/-- subs: of each class that may come whether it is C or under it -/
def dTry (subs : List (Str × Bool)) (body suite : DSt) : DSt := fun D xe Γ O => body D (fun ex Γ' O' => match subs.lookup ex.cls with
  | some true => suite D X0 Γ' O'
  | some false => xe ex Γ' O'
  | none => False) Γ O
def dTryAs (subs : List (Str × Bool)) (i : Nat) (body : DSt) (suite : Addr → Option Addr → DSt) : DSt := fun D xe Γ O => body D (fun ex Γ' O' => match subs.lookup ex.cls with
  | some true => ∀ a d, suite a d { D with nx := fun Γ1 O1 => D.nx (Γ1.set i none) O1, bk := fun Γ1 O1 => D.bk (Γ1.set i none) O1, ct := fun Γ1 O1 => D.ct (Γ1.set i none) O1 } X0 (Γ'.set i (some (.o a d ex.fs))) O'
  | some false => xe ex Γ' O'
  | none => False) Γ O
/-- e.f, e the exception that is handled -/
def dXf (a : Addr) (d : Option Addr) (f : Str) (we : DEx) : DEx := fun Γ O R xe => we Γ O (fun x O1 => match x with
  | .o b d' fs => b = a ∧ d' = d ∧ (match fs.lookup f with
    | some y => R (.d y) O1
    | none => False)
  | _ => False) xe
theorem fields_get {K : Fg} {G : Hp} {f : Str} {y : PyData} : ∀ {vs : List (Str × V)} {fs : List (Str × PyData)}, Paired (fun (p : Str × V) (q : Str × PyData) => p.1 = q.1 ∧ Rp K G p.2 q.2) vs fs → fs.lookup f = some y → ∃ v, vs.lookup f = some v ∧ Rp K G v y
  | _, _, .nil, h => by cases h
  | (f1, v) :: vs, (f2, x) :: fs, .cons hq t, h => by
    have e : f1 = f2 := hq.1
    subst e
    by_cases z : f = f1
    · subst z
      have ev : List.lookup f ((f, x) :: fs) = some x := by simp [List.lookup]
      rw [ev] at h
      cases h
      exact ⟨v, by simp [List.lookup], hq.2⟩
    · have zb : (f == f1) = false := by simpa using z
      have ev : List.lookup f ((f1, x) :: fs) = List.lookup f fs := by simp [List.lookup, zb]
      rw [ev] at h
      obtain ⟨u, h1, h2⟩ := fields_get t h
      exact ⟨u, by simp [List.lookup, zb, h1], h2⟩
end
end Dl
namespace Dl
open PySem PySem.Spec PyProof.Rows L2
variable [TabsC]
/-! #### a def of the program, as it is called -/
structure Has (P : Program) (w : World) (K : Fg) (mg : Str → Option Value) (base : Heap) (x : Str) (ps : List Str) (j : Nat) (df : DFn) : Prop where
  ex : ∃ f fd, FnOk P w K mg base (L2N.CX P w) j f fd ps (liftF K mg df) ∧ mg x = some (.ref f) ∧ PySem.W.keepIn K (.ref f) = true ∧ Binds K fd ps []
/-- no name of the module's -/
structure NB (mg : Str → Option Value) : Prop where
  len : mg "len" = none
  abs : mg "abs" = none
  max : mg "max" = none
  min : mg "min" = none
  tuple : mg "tuple" = none
  list : mg "list" = none
  all : mg "all" = none
  any : mg "any" = none
  sorted : mg "sorted" = none
  set : mg "set" = none
  isinstance : mg "isinstance" = none
  range : mg "range" = none
  enumerate : mg "enumerate" = none
  zip : mg "zip" = none
  int : mg "int" = none
  str : mg "str" = none
  bool : mg "bool" = none
  dict : mg "dict" = none
  repr : mg "repr" = none
  sum : mg "sum" = none
  type : mg "type" = none
  reversed : mg "reversed" = none
/-- a call of a def that raises nothing -/
def dCall0 (f : DFn) (ws : DA) : DEx := fun Γ O R xe => ws Γ O (fun vs O1 => f vs O1 R fun _ _ => False) xe
section
variable {X : Cx} {Wx : WX} {k : Nat} {a b c e o : Expr} {wa wb wc we wo : DEx} {pos p2 p : Pos} {ws : DA} {es : List Expr} {ps : List Str} {df : DFn} {x : Str}
theorem no_exnN {E : XK} (h : ∀ c d H, ¬ E c d H) : Passes (L2N.CX X.prog X.w) X E := fun pins σ H s e s' I q => by
  obtain ⟨a, B, H', cls, d, _, _, _, _, _, _, _, q⟩ := q
  exact absurd q (h _ _ _)
theorem de_call0 {j : Nat} (g : Good X Wx k) (T : Has X.prog X.w X.K X.mg X.base x ps j df) (hj : j ≤ k) (ha : DAs X Wx (e :: es) ws)
    (hg : Gl X x := by rfl) (hdb : (x == ("__debug__" : Str)) = false := by decide) (he : starEach (e :: es) X.env = (false, eval e X.env) :: starEach es X.env := by rfl) (hpl : (backTo pos (starEach es X.env)).any (·.1) = false := by rfl) :
    DE X Wx (.Call (.Name x p) (e :: es) [] pos) (dCall0 df ws) := by
  obtain ⟨f, fd, F, hm, hk, hb⟩ := T.ex
  refine pe_imp (fun σ H Q ⟨G, α, Γ, O, R, xe, sl, rel, h, p, xp⟩ => ?_) (pe_call (E := fun _ _ _ => False) F (g.rm.mono hj) hg hm hk hb .nil (no_exnN fun _ _ _ z => z) ha hdb he hpl)
  refine ⟨G, α, Γ, O, _, xe, sl, rel, h, fun vs O1 h1 us G1 α1 H1 e1 p1 rel1 r1 => ?_, xp⟩
  show liftF X.K X.mg df (us ++ []) H1 Q _
  rw [List.append_nil]
  exact ⟨G1, α1, vs, O1, R, _, r1, rel1, h1, p.mono e1 p1, fun ex O2 h2 cls d G2 α2 H2 e2 p2 rel2 xo => h2.elim⟩
/-! #### -x -/
def dNeg (wa : DEx) : DEx := fun Γ O R xe => wa Γ O (fun r O1 => match r with
  | .d (.int i) => R (.d (.int (-i))) O1
  | _ => False) xe
/-! #### operators by the place in the text -/
theorem op_eqG (g : Good X Wx k) : OpR X (compareOp .Eq) (rEqD X.K) := op_eqD (by have := g.rm.un; omega)
theorem op_neG (g : Good X Wx k) : OpR X (compareOp .NotEq) (rNeD X.K) := op_neD (by have := g.rm.un; omega)
/-- <, > of ints or of data -/
def dLt2 : D2 := fun x y O R => match x, y with
  | .d (.int i), .d (.int j) => R (.d (.bool (decide (i < j)))) O
  | x, y => dLtD (fun d e => PySem.W.dataLt d e) x y O R
def dGt2 : D2 := fun x y O R => match x, y with
  | .d (.int i), .d (.int j) => R (.d (.bool (decide (j < i)))) O
  | x, y => dLtD (fun d e => PySem.W.dataLt e d) x y O R
theorem s_lt2 {K : Fg} {mg : Str → Option Value} : OpS K mg dLt2 (fun x y H Q => rI0 (fun i j => .bl (decide (i < j))) x y H Q ∨ rLtD K (fun d e => PySem.W.dataLt d e) x y H Q) := by
  intro G α O H x y u v R Q rel r1 r2 h p
  unfold dLt2 at h
  split at h
  · cases r1; cases r2
    exact .inl ⟨_, _, rfl, rfl, p.here h rel (.bl _)⟩
  · exact .inr (s_ltD _ _ _ _ _ _ _ _ _ _ rel r1 r2 h p)
theorem s_gt2 {K : Fg} {mg : Str → Option Value} : OpS K mg dGt2 (fun x y H Q => rI0 (fun i j => .bl (decide (j < i))) x y H Q ∨ rLtD K (fun d e => PySem.W.dataLt e d) x y H Q) := by
  intro G α O H x y u v R Q rel r1 r2 h p
  unfold dGt2 at h
  split at h
  · cases r1; cases r2
    exact .inl ⟨_, _, rfl, rfl, p.here h rel (.bl _)⟩
  · exact .inr (s_ltD _ _ _ _ _ _ _ _ _ _ rel r1 r2 h p)
theorem op_lt2 (g : Good X Wx k) : OpR X (compareOp .Lt) (fun x y H Q => rI0 (fun i j => .bl (decide (i < j))) x y H Q ∨ rLtD X.K (fun d e => PySem.W.dataLt d e) x y H Q) := or_op op_lt (op_ltD (hu100 g.rm))
theorem op_gt2 (g : Good X Wx k) : OpR X (compareOp .Gt) (fun x y H Q => rI0 (fun i j => .bl (decide (j < i))) x y H Q ∨ rLtD X.K (fun d e => PySem.W.dataLt e d) x y H Q) := or_op op_gt (op_gtD (hu100 g.rm))
/-! #### len(set(texts)) -/
def dLenSet (wa : DEx) : DEx := fun Γ O R xe => wa Γ O (fun x O1 => match asL x O1 with
  | some ws => (match datas ws with
    | some ds => (match strsD ds with
      | some ys => ys.length ≤ 1000 ∧ R (.d (.int ((met ys).length : Nat))) O1
      | none => False)
    | none => False)
  | none => False) xe
/-! #### is of truth values and None, whatever stands there -/
def dIs2 (neg : Bool) : D2 := fun x y O R => match y with
  | .d .none => R (.d (.bool (if neg then !isNone x else isNone x))) O
  | .d (.bool b) => (match x with
    | .d (.bool a) => R (.d (.bool (if neg then !decide (a = b) else decide (a = b)))) O
    | _ => False)
  | _ => False
/-! #### an except clause, its class by name -/
/-! #### the end -/
theorem all_nil {α : Type} {p : α → Prop} : ∀ x ∈ ([] : List α), p x := fun _ h => nomatch h
theorem all_cons {α : Type} {p : α → Prop} {a : α} {l : List α} (h : p a) (t : ∀ x ∈ l, p x) : ∀ x ∈ a :: l, p x := fun x hx => by
  rcases List.mem_cons.mp hx with rfl | hx
  · exact h
  · exact t x hx
theorem no_cx {P : Program} {w : World} {o : List Env} {H : Hp} {s s' : Shared} {e : Value} (z : LM.CX true P w o H s (fun _ _ _ => False) e s') : False := by
  obtain ⟨_, _, _, _, _, _, _, _, _, _, _, _, _, _, z⟩ := z
  exact z
theorem law_in {K : Fg} {mg : Str → Option Value} {df : DFn} {vs : List V} {H : Hp} {Q : VK} {E : XK} (hT : ∀ p ∈ TabsC.T, H p.1 = some (.tbl #[])) (hlaw : ∀ (ns : List Int), ns.length ≤ 63 → ∀ (R : DK) (xe : Exn → Oh → Prop), (∀ O', R (.d (.bool true)) O') → df [.d (.dict [(.none, .list (ns.map PyData.int))])] [] R xe)
    (h : ∃ (a : Addr) (ns : List Int), vs = [.ref a] ∧ SqL K H a (ns.map V.int) ∧ ns.length ≤ 63 ∧ ∀ H', Q (.bl true) H') : liftF K mg df vs H Q E := by
  obtain ⟨a, ns, rfl, hS, hl, q⟩ := h
  have keep : ∀ {b : Addr} {u : HO}, H b = some u → (∀ ps, u ≠ .tbl ps) → (if b ∈ TabsC.T.map Prod.fst then none else H b) = some u := fun {b u} e n => by
    by_cases z : b ∈ TabsC.T.map Prod.fst
    · obtain ⟨p, hp, rfl⟩ := List.mem_map.mp z
      rw [hT p hp] at e
      cases e
      exact absurd rfl (n _)
    · rw [if_neg z]; exact e
  have hS' : SqL K (fun b => if b ∈ TabsC.T.map Prod.fst then none else H b) a (ns.map V.int) := by
    rcases hS with (e | ⟨ob, e⟩) | z
    · exact .inl (.inl (keep e fun ps z => by cases z))
    · exact .inl (.inr ⟨ob, keep e fun ps z => by cases z⟩)
    · exact .inr z
  refine ⟨fun b => if b ∈ TabsC.T.map Prod.fst then none else H b, ⟨[], []⟩, [.d (.dict [(.none, .list (ns.map PyData.int))])], [], fun r _ => r = .d (.bool true), fun _ _ => False, .cons (.scr ns hS') .nil, ⟨fun b u e => ?_, rfl, List.nodup_nil, fun _ h => (nomatch h), fun k a c h => absurd h (by show ¬ (([] : List Addr)[k]? = some a); simp), fun p h => (nomatch h), fun p hp => ⟨if_pos (List.mem_map.mpr ⟨p, hp, rfl⟩), ⟨fun z => (nomatch z), fun q z => (nomatch z)⟩, #[], hT p hp, trivial, fun pos cv z => ?_⟩⟩, hlaw ns hl _ _ fun _ => rfl, fun r O' e v G' α' H' _ _ _ rv => ?_, fun ex O' z => z.elim⟩
  · by_cases z : b ∈ TabsC.T.map Prod.fst
    · have e : (if b ∈ TabsC.T.map Prod.fst then none else H b) = some u := e
      rw [if_pos z] at e; cases e
    · have e : (if b ∈ TabsC.T.map Prod.fst then none else H b) = some u := e
      rw [if_neg z] at e; exact e
  · cases z
  · subst e
    cases rv
    exact q H'
/-! #### constants of the module -/
/-- a comprehension's names -/
theorem blk_ok {N : List Str} {sc scope : Scope} {own : List (Str × Nat)} (h : blkC N sc scope own = true) : BlkOk N sc scope own := blkOk_by h
end
end Dl
/-! ### list.extend, min of alike things -/
/-! ### dict(zip(xs, ys)) -/
/-! ### a try whose body raises nothing -/
/-! ### walks along dicts that never change -/
namespace Dl
open PySem PySem.Spec PyProof.Rows L2
variable [TabsC]
section
variable {K : Fg} {mg : Str → Option Value} {G : Hp} {α : Al}
theorem RpK.get : ∀ {es : List (Key × V)} {ds : List (PyData × PyData)} {i : Nat} {q d : PyData}, RpK K G es ds → ds[i]? = some (q, d) → ∃ k v, es[i]? = some (k, v) ∧ q = keyD k ∧ keyOk k = true ∧ Rp K G v d
  | _, _, _, _, _, .nil, e => by simp at e
  | _, _, 0, _, _, .cons h0 h1 h2 _, e => by
    simp only [List.getElem?_cons_zero, Option.some.injEq, Prod.mk.injEq] at e
    obtain ⟨rfl, rfl⟩ := e
    exact ⟨_, _, rfl, h0, h1, h2⟩
  | _, _, i + 1, _, _, .cons _ _ _ t, e => by
    obtain ⟨k, v, q1, q2⟩ := RpK.get (i := i) t (by simpa using e)
    exact ⟨k, v, by simpa using q1, q2⟩
theorem RpK.len : ∀ {es : List (Key × V)} {ds : List (PyData × PyData)}, RpK K G es ds → es.length = ds.length
  | _, _, .nil => rfl
  | _, _, .cons _ _ _ t => by rw [List.length_cons, List.length_cons, RpK.len t]
end
end Dl
/-! ### more of dicts and lists -/
/-! ### a + b of lists that will change, max of whole numbers -/
namespace Dl
open PySem PySem.Spec PyProof.Rows L2
variable [TabsC]
def dAddC : D2 := fun x y O R => match asL x O, asL y O with
  | some xs, some ys => xs.length + ys.length ≤ 1000000 ∧ R (.c O.length) (O ++ [.lst (xs ++ ys)])
  | _, _ => False
theorem s_addC {K : Fg} {mg : Str → Option Value} : OpS K mg dAddC (rAdd4 K) := by
  intro G α O H x y u v R Q rel r1 r2 h p
  unfold dAddC at h
  split at h
  · next xs ys h1 h2 =>
    obtain ⟨a, vs, rfl, ha, ra⟩ := asL_ok rel r1 h1
    obtain ⟨b, us, rfl, hb, rb⟩ := asL_ok rel r2 h2
    have la := ra.length
    have lb := rb.length
    refine .inr (.inr (.inr ⟨a, b, vs, us, rfl, rfl, ha, hb, by rw [la, lb]; exact szl h.1, fun l hl => ?_⟩))
    have rel2 := rel.cell (o := .lst (vs ++ us)) (c := .lst (xs ++ ys)) hl (fun b z => by cases z) ⟨rel.ex.free hl, _, upd_same, RvL.mono (Ex.refl _) Pre.push (RvL.append ra rb)⟩
    exact p _ _ h.2 _ _ _ _ (Ex.refl _) Pre.push rel2 ⟨l, pre_len rel.len, rfl⟩
  · exact h.elim
end Dl
/-! ### sorted(set(xs)), xs a list of texts -/
namespace Dl
open PySem PySem.Spec PyProof.Rows L2
variable [TabsC]
def txt : Value → Str
  | .str z _ => z
  | _ => Str.empty
abbrev KS (P : Program) (w : World) := PySem.strKind P w
/-- a table that can be walked -/
def Tbl (w : World) (t : SetTable) : Prop := Ris t.place.toList ∧ (w.params.followText "set-order" = true ∨ t.led = true)
/-- a set of these texts -/
def TxR (P : Program) (w : World) (h : Heap) (a : Addr) (ys : List Str) : Prop :=
  ∃ o es ep t, h.get? a = some o ∧ o.ExactSet ∧ o.data = .set es ep t ∧ ElemsOf (KS P w) es.toList ∧ (es.toList.map fun e => txt e.2).Perm ys ∧ es.size < scanBound ∧ t.fits es.size = true ∧ Tbl w t
end Dl
/-! ### sorted(set(xs)): the sorting, the reading -/
namespace Dl
open PySem PySem.Spec PyProof.Rows L2
variable [TabsC]
section
variable {P : Program} {w : World} {A : Around} {E : Value → Shared → Prop} {s : Shared} {a : Addr}
theorem TxR.at {h h' : Heap} {ys : List Str} (T : TxR P w h a ys) (k : ∀ b o, h.get? b = some o → h'.get? b = some o) : TxR P w h' a ys := by
  obtain ⟨o, es, ep, t, at0, more⟩ := T
  exact ⟨o, es, ep, t, k _ _ at0, more⟩
end
end Dl
/-! ### for a in text -/
/-! ### len(set(xs)), xs a tuple of texts -/
/-! ### dicts whose keys are tuples -/
/-! ### sorted(xs), xs tuples that differ in the two texts at their heads -/
namespace Dl
open PySem PySem.Spec PyProof.Rows L2
open PySem.W (SortsAt EachIs sortLe sortVals_each sorted_vals sorting_copy_old sortingHeap copyHeap kat_kind kat_lt kat_cons kat_yes kat_no KatLex katLex_alike each_katTups looks_reads alike dataLt sortVals)
variable [TabsC]
/-- the two texts at the head of a tuple -/
def hd2 : PyData → Option (Str × Str)
  | .tuple (.str a :: .str b :: _) => some (a, b)
  | _ => none
abbrev O2 : KeyOrd := PyProof.Rows.listOrd (PyProof.Rows.strKind).toKeyOrd
end Dl
/-! ### sorted(xs), tuples that differ in the two texts at their heads: the reading -/
namespace Dl
open PySem PySem.Spec PyProof.Rows L2
variable [TabsC]
def k2 (d : PyData) : Str × Str := (hd2 d).getD ("", "")
/-! #### what such a sort gives -/
end Dl
/-! ### a list so many times -/
/-! ### defs with defaults -/
namespace Dl
open PySem PySem.Spec PyProof.Rows L2
variable [TabsC]
structure FunT (K : Fg) (x qual : Str) (st : Stmt) (T : Addr) (its : Array Value) (f : Addr) (fd : FuncData) : Prop where
  ex : ∃ (oc : Value) (od : Option Addr) (kV doc pm : Value) (an : Option Addr) (cdv ct : Value) (osl : Array (Option Value)),
    fd = PySem.W.fnOf x qual (defArgs st) (defBody st) (defScope st) (.ref T) kV doc pm an cdv ct ∧ K.lookup f = some ⟨oc, od, .func fd, osl⟩ ∧ PySem.W.codeIn K cdv qual = true
  tx : ∃ (o : Obj) (n : Nat), K.lookup T = some o ∧ o.data = .seq its n
section
variable {P : Program} {w : World} {K : Fg} {mg : Str → Option Value} {base : Heap} {x qual : Str} {st : Stmt} {T : Addr} {its : Array Value} {f : Addr} {fd : FuncData}
/-- a call that gives the first ones; the last ones are the defaults -/
theorem FunT.binds {ps : List Str} (F : FunT K x qual st T its f fd) (ds : List Value)
    (h : ∀ (kV doc pm : Value) (an : Option Addr) (cdv ct : Value) (us : List Value), us.length + ds.length = ps.length →
      ∃ k, bindArgs (PySem.W.fnOf x qual (defArgs st) (defBody st) (defScope st) (.ref T) kV doc pm an cdv ct) ⟨us, []⟩ = seqItems? (.ref T) >>= k ∧ k (some its) = pure (ps.zip (us ++ ds))) : Binds K fd ps ds := by
  obtain ⟨oc, od, kV, doc, pm, an, cdv, ct, osl, rfl, lk, hcd⟩ := F.ex
  obtain ⟨o, n, lT, oT⟩ := F.tx
  intro s us X hl
  rw [List.length_append] at hl
  obtain ⟨k, e1, e2⟩ := h kV doc pm an cdv ct us hl
  refine BindsTo.of_looks fun M => ?_
  rw [e1]
  exact looks_items X lT oT (.of_pure e2)
end
end Dl
/-! ### sorted(d.items()), d from texts to texts: at the machine -/
/-! ### sorted(d.items()), d from texts to texts: the reading -/
namespace Dl
open PySem PySem.Spec PyProof.Rows L2
variable [TabsC]
section
variable {K : Fg} {mg : Str → Option Value} {G : Hp} {α : Al} {O : Oh} {H H' : Hp}
theorem COk.push {a l : Addr} {vs : List V} {c : Cell} (hl : H l = some (.lst vs)) (w : COk K mg G α H a c) : COk K mg G (α.push l) H a c := by
  cases c with
  | lst ys => obtain ⟨h0, vs, e, h⟩ := w; exact ⟨h0, vs, e, h.mono (Ex.refl _) Pre.push⟩
  | dic ys => obtain ⟨h0, vs, e, h⟩ := w; exact ⟨h0, vs, e, h.mono (Ex.refl _) Pre.push⟩
  | dct ys => obtain ⟨h0, vs, e, h⟩ := w; exact ⟨h0, vs, e, h.mono (Ex.refl _) Pre.push⟩
  | ldic od es ys => obtain ⟨h0, e, h⟩ := w; exact ⟨h0, e, h.mono (Ex.refl _) Pre.push⟩
  | ldct od es ys => obtain ⟨h0, e, h⟩ := w; exact ⟨h0, e, h.mono (Ex.refl _) Pre.push⟩
  | ins C ys =>
    obtain ⟨h0, Ca, dx, es, q1, q2, q3, q4, q5, h⟩ := w
    refine ⟨h0, Ca, dx, es, q1, q2, q3, q4, fun z => ?_, h.mono (Ex.refl _) Pre.push⟩
    rcases List.mem_append.mp z with z | z
    · exact q5 z
    · have : dx = l := by simpa using z
      rw [this, hl] at q3; cases q3
  | exn C fs => obtain ⟨h0, Ca, d, q1, q2, q3⟩ := w; exact ⟨h0, Ca, d, q1, q2, q3⟩
  | gone => trivial
end
end Dl
/-! ### d.setdefault, int(bool), calls that leave defaults out -/
/-! ### xs[i], ys[j] = e1, e2 -/
/-! ### an empty dict in a tuple of texts: no -/
/-! ### an except suite `as n` that raises: the name goes, the exception goes on (begun) -/
/-! ### try .. except x as n: (a suite that may raise) .. else -/
/-! ### values: try .. except C as n: raise C(..) from None, else .. -/
/-! ### membership where an empty dict may stand on either side -/
namespace Dl
open PySem PySem.Spec PyProof.Rows L2 PySem.SeqAt PySem.MeetsSeq PySem.AutoSeq1 PySem.Calls
variable [TabsC]
/-- x in ts: x may be an empty dict, if ts is a list of texts -/
def dInL : D2 := fun x y O R => match x, y with
  | .d (.dict []), .d (.list ds) => (match strsD ds with
    | some _ => R (.d (.bool false)) O
    | none => False)
  | x, y => dIn2 false x y O R
def oE : PyData → Bool
  | .dict [] => true
  | d => shp 39 d
/-- x not in ts: a text in a tuple that may hold empty dicts -/
def dNiO : D2 := fun x y O R => match x, y with
  | .d (.str i), .d (.tuple ds) => ds.all oE = true ∧ R (.d (.bool (!(ds.any fun z => PyData.eqv z (.str i))))) O
  | x, y => dIn2 true x y O R
end Dl
/-! ### a >= b, of texts -/
/-! ### a comprehension along zip of two lists while an exception is handled: at the machine -/
namespace Dl
open PySem PySem.Spec PyProof.Rows L2 HotX L2H
open LM (HotL)
variable [TabsC]
/-- the exception that is handled: its context is None, or one whose context is None -/
def HotB (A : Around) (x1 : Addr) (h : Heap) : Prop := A.handled = some (.ref x1) ∧ ∃ (o : Obj) (vs : Array Value), h.get? x1 = some o ∧ o.data = .fields vs ∧
  (vs[2]? = some .none ∨ ∃ (y : Addr) (oy : Obj) (vy : Array Value), vs[2]? = some (.ref y) ∧ h.get? y = some oy ∧ oy.data = .fields vy ∧ vy[2]? = some .none)
section
variable {prog : Program} {w : World} {A : Around} {E : Value → Shared → Prop} {s : Shared}
/-- what is kept of the heap keeps it hot -/
theorem HotB.keep {x1 : Addr} {h h' : Heap} (hot : HotB A x1 h) (k : ∀ b o vs, h.get? b = some o → o.data = .fields vs → (b = x1 ∨ ∃ o1 v1, h.get? x1 = some o1 ∧ o1.data = .fields v1 ∧ v1[2]? = some (.ref b)) → h'.get? b = some o) : HotB A x1 h' := by
  obtain ⟨hh, o, vs, e, d, c⟩ := hot
  refine ⟨hh, o, vs, k _ _ _ e d (.inl rfl), d, c.imp id fun ⟨y, oy, vy, c1, hy, dy, cy⟩ => ⟨y, oy, vy, c1, k _ _ _ hy dy (.inr ⟨o, vs, e, d, c1⟩), dy, cy⟩⟩
end
/-! #### iterators there -/
/-! #### the comprehension -/
end Dl
/-! ### values: several clauses, isinstance of what is handled, defs called within a suite -/
namespace Dl
open PySem PySem.Spec PyProof.Rows L2
open LM (HotL)
variable [TabsC]
/-! #### a def called while an exception is handled: at the machine -/
structure FnP (P : Program) (w : World) (K : Fg) (mg : Str → Option Value) (base : Heap) (CX : CXT) (k : Nat) (f : Addr) (fd : FuncData) (ps : List Str) (sp : Sp) (l : List (Addr × Obj)) : Prop where
  len : ∀ vs H Q E, sp vs H Q E → vs.length = ps.length
  run : ∀ (A : Around) (outer : List Env) (s : Shared) (H : Hp) (args : Args) (us : List Value) (vs : List V) (Q : VK) (E : XK), L2H.RoomH k A → HotL A l → (∀ p ∈ l, L2H.PinOk outer H s p) → Env0 P w K mg base A outer s H → BindsTo s fd args (ps.zip us) → Vals vs us → sp vs H Q E →
    codeAny (model P w) A (.call (.ref f) args) (CR CX outer P w H s Q E) s
/-- a place where an exception is handled -/
structure GoodH (X : Cx) (k : Nat) (l : List (Addr × Obj)) : Prop where
  hot : HotL X.A l
  sub : ∀ q ∈ l, q ∈ X.pn
  rm : L2H.RoomH k X.A
  nd : X.N.Nodup
/-- .. of the class nm, at a -/
structure ExH (X : Cx) (k : Nat) (nm : Str) (a : Addr) (d : Option Addr) (l : List (Addr × Obj)) : Prop where
  g : GoodH X k l
  ex : ∃ oe C r, l = (a, oe) :: r ∧ X.mg nm = some (.ref C) ∧ Zc (.ref C) d oe ∧ ∃ vs, oe.data = .fields vs
theorem GoodH.mono {X : Cx} {j k : Nat} {l : List (Addr × Obj)} (g : GoodH X k l) (h : j ≤ k) : GoodH X j l := ⟨g.hot, g.sub, g.rm.mono h, g.nd⟩
theorem FnP.mono {P : Program} {w : World} {K : Fg} {mg : Str → Option Value} {base : Heap} {CX : CXT} {j k : Nat} {f : Addr} {fd : FuncData} {ps : List Str} {sp : Sp} {l : List (Addr × Obj)} (F : FnP P w K mg base CX j f fd ps sp l) (h : j ≤ k) : FnP P w K mg base CX k f fd ps sp l :=
  ⟨F.len, fun A outer s H args us vs Q E hr => F.run A outer s H args us vs Q E (hr.mono h)⟩
/-! #### isinstance of what is handled -/
/-- of each of these classes: what isinstance asks -/
structure XIs (K : Fg) (mg : Str → Option Value) (cs : List Str) (D : Str) : Prop where
  ex : ∃ DA, mg D = some (.ref DA) ∧ ∀ nm ∈ cs, ∀ C, mg nm = some (.ref C) → PySem.W.kitOne K (.ref C) (.ref DA) = some (nm == D)
structure XIsV (K : Fg) (mg : Str → Option Value) (cs : List Str) (T : String) : Prop where
  ex : ∀ nm ∈ cs, ∀ C, mg nm = some (.ref C) → ExcC K C ∧ PySem.W.kitOne K (.ref C) (.type T) = some true
theorem xis_nil {K : Fg} {mg : Str → Option Value} {DA : Addr} {D : Str} : ∀ nm ∈ ([] : List Str), ∀ C, mg nm = some (.ref C) → PySem.W.kitOne K (.ref C) (.ref DA) = some (nm == D) := fun _ h => nomatch h
theorem sub_self {K : Fg} {C : Addr} {b : Bool} (h : PySem.W.selfFirst K C = true) (e : PySem.W.subIn K (.ref C) (.ref C) = some b) : b = true := by
  unfold PySem.W.selfFirst at h
  have e : PySem.W.mroIn K C (.ref C) = some b := e
  unfold PySem.W.mroIn at e
  cases hc : PySem.W.clsIn K C with
  | none => rw [hc] at h; cases h
  | some cd =>
    rw [hc] at h e
    have h : (cd.mro.head? == some (Value.ref C)) = true := h
    have e : (if cd.mro.isEmpty then none else some (cd.mro.contains (.ref C))) = some b := e
    have h := beq_iff_eq.mp h
    cases hm : cd.mro with
    | nil => rw [hm] at h; cases h
    | cons v r =>
      rw [hm] at h e
      cases h
      simp at e
      exact e
theorem xis_cons {K : Fg} {mg : Str → Option Value} {DA C0 : Addr} {D nm0 : Str} {cs : List Str} {b : Bool} (hm : mg nm0 = some (.ref C0)) (hb : (nm0 == D) = b) (h1 : PySem.W.selfFirst K DA = true) (h2 : PySem.W.typeIn K (.ref DA) = some (.type "type")) (h3 : PySem.W.subIn K (.ref C0) (.ref DA) = some b)
    (h : ∀ nm ∈ cs, ∀ C, mg nm = some (.ref C) → PySem.W.kitOne K (.ref C) (.ref DA) = some (nm == D)) : ∀ nm ∈ nm0 :: cs, ∀ C, mg nm = some (.ref C) → PySem.W.kitOne K (.ref C) (.ref DA) = some (nm == D) := fun nm hn C hC => by
  rcases List.mem_cons.mp hn with e | hn
  · subst e
    rw [hm] at hC
    cases hC
    rw [hb]
    unfold PySem.W.kitOne
    by_cases z : (Value.ref C0 == Value.ref DA) = true
    · rw [if_pos z]
      have : C0 = DA := Value.ref.inj (beq_iff_eq.mp z)
      subst this
      rw [sub_self h1 h3]
    · rw [if_neg z]
      have e0 : (PySem.W.clsIn K DA).isSome = true := by
        unfold PySem.W.selfFirst at h1
        cases hc : PySem.W.clsIn K DA with
        | none => rw [hc] at h1; cases h1
        | some cd => rfl
      have e1 : ((PySem.W.clsIn K DA).isSome && PySem.W.typeIn K (.ref DA) == some (.type "type")) = true := by rw [h2, e0]; rfl
      show (if ((PySem.W.clsIn K DA).isSome && PySem.W.typeIn K (.ref DA) == some (.type "type")) = true then PySem.W.subIn K (.ref C0) (.ref DA) else none) = some b
      rw [if_pos e1]
      exact h3
  · exact h nm hn C hC
theorem xisv_nil {K : Fg} {mg : Str → Option Value} {T : String} : ∀ nm ∈ ([] : List Str), ∀ C, mg nm = some (.ref C) → ExcC K C ∧ PySem.W.kitOne K (.ref C) (.type T) = some true := fun _ h => nomatch h
theorem xisv_cons {K : Fg} {mg : Str → Option Value} {T : String} {C0 : Addr} {nm0 : Str} {cs : List Str} (hm : mg nm0 = some (.ref C0)) (hT : PySem.W.kitMeta T = true) (E : ExcC K C0) (h3 : PySem.W.subIn K (.ref C0) (.type T) = some true)
    (h : ∀ nm ∈ cs, ∀ C, mg nm = some (.ref C) → ExcC K C ∧ PySem.W.kitOne K (.ref C) (.type T) = some true) : ∀ nm ∈ nm0 :: cs, ∀ C, mg nm = some (.ref C) → ExcC K C ∧ PySem.W.kitOne K (.ref C) (.type T) = some true := fun nm hn C hC => by
  rcases List.mem_cons.mp hn with e | hn
  · subst e
    rw [hm] at hC
    cases hC
    refine ⟨E, ?_⟩
    unfold PySem.W.kitOne
    rw [if_neg (show ¬ ((Value.ref C0 == Value.type T) = true) from by simp)]
    show (if PySem.W.kitMeta T = true then PySem.W.subIn K (.ref C0) (.type T) else none) = some true
    rw [if_pos hT]
    exact h3
  · exact h nm hn C hC
/-- what isinstance asks of a def that is handled: a its place, d its dict -/
theorem kit_exc {K : Fg} {C x : Addr} {ox : Obj} {od : Option Obj} (E : ExcC K C) : PySem.W.KitX K (.ref x) (.ref C) (fun h => PySem.W.InstAt h x ox C od) := by
  obtain ⟨cd, hc, _⟩ := PySem.W.any_some E.hd
  exact PySem.W.kitx_exc (by rw [hc]; rfl) E.hg E.hk E.hs E.ha E.hn E.ht E.hm
end Dl
/-! ### values: what may stand in a suite, in a def that is called there -/
namespace Dl
open PySem PySem.Spec PyProof.Rows L2
open LM (HotL)
variable [TabsC]
section
variable {X Y : Cx} {Wx : WX} {k : Nat} {a b c e o : Expr} {wa wb wc we wo : DEx} {pos p2 p apos : Pos} {ws : DA} {es : List Expr} {nm : Str} {q : Addr} {d : Option Addr} {l : List (Addr × Obj)}
theorem ExH.mem (x : ExH Y k nm q d l) : ∃ oe C, (q, oe) ∈ Y.pn ∧ Y.mg nm = some (.ref C) ∧ Zc (.ref C) d oe ∧ ∃ vs, oe.data = .fields vs := by
  obtain ⟨oe, C, r, e, h1, h2, h3⟩ := x.ex
  exact ⟨oe, C, x.g.sub _ (by rw [e]; exact List.mem_cons_self), h1, h2, h3⟩
/-! #### isinstance -/
/-- isinstance(e, D), e of the class nm -/
def dIsX (nm D : Str) (q : Addr) (d : Option Addr) (we : DEx) : DEx := fun Γ O R xe => we Γ O (fun x O1 => match x with
  | .o b d' fs => b = q ∧ d' = d ∧ R (.d (.bool (nm == D))) O1
  | _ => False) xe
def dIsV (q : Addr) (d : Option Addr) (we : DEx) : DEx := fun Γ O R xe => we Γ O (fun x O1 => match x with
  | .o b d' fs => b = q ∧ d' = d ∧ R (.d (.bool true)) O1
  | _ => False) xe
/-- isinstance(e, (D, ..)) -/
def dIsXT (nm : Str) (Ds : List Str) (q : Addr) (d : Option Addr) (we : DEx) : DEx := fun Γ O R xe => we Γ O (fun x O1 => match x with
  | .o b d' fs => b = q ∧ d' = d ∧ R (.d (.bool (Ds.contains nm))) O1
  | _ => False) xe
/-- the classes of a tuple -/
inductive ClsT (Y : Cx) (cs : List Str) : List Expr → List Str → List Addr → Prop
  | nil : ClsT Y cs [] [] []
  | cons {D : Str} {pD : Pos} {DA : Addr} {es : List Expr} {Ds : List Str} {As : List Addr} (T : XIs Y.K Y.mg cs D) (hD : Y.mg D = some (.ref DA)) (hg : Gl Y D) (hdb : (D == ("__debug__" : Str)) = false) (hs : starEach (.Name D pD :: es) Y.env = (false, eval (.Name D pD) Y.env) :: starEach es Y.env) (r : ClsT Y cs es Ds As) :
      ClsT Y cs (.Name D pD :: es) (D :: Ds) (DA :: As)
theorem ClsT.any {cs : List Str} {C : Addr} (hn : nm ∈ cs) (hC : Y.mg nm = some (.ref C)) : ∀ {es : List Expr} {Ds : List Str} {As : List Addr}, ClsT Y cs es Ds As → PySem.W.kitAny Y.K (.ref C) (As.map Value.ref) = some (Ds.contains nm)
  | _, _, _, .nil => rfl
  | _, _, _, .cons (D := D) (Ds := Ds) T hD hg hdb hs r => by
    obtain ⟨DA', hD', hk⟩ := T.ex
    rw [hD] at hD'
    cases hD'
    have h1 := hk nm hn C hC
    have h2 := r.any hn hC
    rw [List.map_cons]
    unfold PySem.W.kitAny
    rw [h1]
    rw [List.contains_cons]
    cases z : (nm == D) with
    | true => rfl
    | false => exact h2
/-! #### e.f where e is of the class C0 -/
/-! #### a def that is called there -/
end
end Dl
/-! ### values: a comprehension along zip while an exception is handled; tries of several clauses -/
namespace Dl
open PySem PySem.Spec PyProof.Rows L2
open LM (HotL)
variable [TabsC]
/-- a list of data, as it stands: data, or a cell while it stays -/
def snapW (x : W) (O : Oh) : Option (List PyData × (Oh → Prop)) := match x with
  | .d (.list ds) => some (ds, fun _ => True)
  | .c k => match O[k]? with
    | some (.lst ws) => match datas ws with
      | some ds => some (ds, fun O' => O'[k]? = some (.lst ws))
      | none => none
    | _ => none
  | _ => none
def dZipL (ws : DA) : DI := fun Γ O S xe => ws Γ O (fun xs O1 => match xs with
  | [x, y] => match snapW x O1, snapW y O1 with
    | some (ds, ok), some (es, ok') => S (zipW ds es) (fun O => ok O ∧ ok' O) O1
    | _, _ => False
  | _ => False) xe
/-! #### try .. except .. except .. else -/
/-- a clause: which classes it takes, the name's slot, the suite by the class, the place and the dict of what is handled -/
abbrev HK := List (Str × Bool) × Option Nat × (Str → Addr → Option Addr → DSt)
def endsK (i : Option Nat) (D : DEnds) : DEnds := match i with
  | none => D
  | some i => { D with nx := fun Γ1 O1 => D.nx (Γ1.set i none) O1, bk := fun Γ1 O1 => D.bk (Γ1.set i none) O1, ct := fun Γ1 O1 => D.ct (Γ1.set i none) O1 }
def nameK (i : Option Nat) (Γ : Gm) (w : W) : Gm := match i with
  | none => Γ
  | some i => Γ.set i (some w)
def dHs : List HK → DEnds → DX → Exn → Gm → Oh → Prop
  | [], _, xe, ex, Γ, O => xe ex Γ O
  | (subs, i, s) :: r, D, xe, ex, Γ, O => match subs.lookup ex.cls with
    | some true => ∀ a d, s ex.cls a d (endsK i D) X0 (nameK i Γ (.o a d ex.fs)) O
    | some false => dHs r D xe ex Γ O
    | none => False
def dTryK (hs : List HK) (body els : DSt) : DSt := fun D xe Γ O => body { D with nx := els D xe } (dHs hs D xe) Γ O
end Dl
/-! ### x not in a list of texts, x an empty dict -/
namespace Dl
open PySem PySem.Spec PyProof.Rows L2
variable [TabsC]
def dNiL : D2 := fun x y O R => match x, y with
  | .d (.dict []), .d (.list ds) => (match strsD ds with
    | some _ => R (.d (.bool true)) O
    | none => False)
  | x, y => dIn2 true x y O R
end Dl
namespace Dl
open PySem PySem.Spec PyProof.Rows L2
variable [TabsC]
/-! ### instances: fields, methods, making -/
theorem RK.get {K : Fg} {G : Hp} {α : Al} {f : Str} {w : W} : ∀ {es : List (Str × V)} {fs : List (Str × W)}, RK K G α es fs → fs.lookup f = some w → ∃ v, es.lookup f = some v ∧ Rv K G α v w
  | _, _, .nil, h => by cases h
  | (a, v) :: es, (b, w') :: fs, .cons r t, h => by
    obtain ⟨e, rv⟩ := r
    have e : a = b := e
    subst e
    rw [List.lookup_cons] at h ⊢
    cases z : f == a with
    | true =>
      rw [z] at h
      cases h
      exact ⟨v, rfl, rv⟩
    | false =>
      rw [z] at h
      exact RK.get t h
/-! #### a def all cells of which stay -/
end Dl
namespace Dl
open PySem PySem.Spec PyProof.Rows L2
variable [TabsC]
/-! ### a list of tuples that are keys, made along a walk: it may change -/
abbrev KP (G : Hp) (v : V) (ks : List Key) : Prop := ks.all keyOk = true ∧ ∃ a, v = .ref a ∧ G a = some (.tup (ks.map kV))
abbrev KPs (G : Hp) (vs : List V) (kss : List (List Key)) : Prop := Paired (fun v ks => KP G v ks) vs kss
theorem KPs.mono {G G' : Hp} (e : Ex G G') : ∀ {vs : List V} {kss : List (List Key)}, KPs G vs kss → KPs G' vs kss
  | _, _, .nil => .nil
  | _, _, .cons ⟨h, a, e1, e2⟩ t => .cons ⟨h, a, e1, e a _ e2⟩ (KPs.mono e t)
theorem KPs.snoc {G : Hp} {v : V} {ks : List Key} (h : KP G v ks) : ∀ {vs : List V} {kss : List (List Key)}, KPs G vs kss → KPs G (vs ++ [v]) (kss ++ [ks])
  | _, _, .nil => .cons h .nil
  | _, _, .cons r t => .cons r (KPs.snoc h t)
theorem KPs.length {G : Hp} {vs : List V} {kss : List (List Key)} (h : KPs G vs kss) : vs.length = kss.length := Paired.length h
variable {X : Cx} {Wx : WX} {k : Nat} {pos : Pos}
end Dl
/-! ### len of a dict with tuples as keys -/
/-! ### d != {} -/
/-! ### dict(zip(d, xs)) over a dict d -/
/-! ### a def that is called with no guards about: the law itself (for repr) -/
namespace Dl
open PySem PySem.Spec PyProof.Rows L2
variable [TabsC]
structure FnOkG (P : Program) (w : World) (K : Fg) (mg : Str → Option Value) (base : Heap) (CX : CXT) (k : Nat) (f : Addr) (fd : FuncData) (ps : List Str) (sp : Sp) : Prop where
  len : ∀ (vs : List V) (H : Hp) (Q : VK) (E : XK), sp vs H Q E → vs.length = ps.length
  run : ∀ (A : Around) (outer : List Env) (s : Shared) (H : Hp) (args : Args) (us : List Value) (vs : List V) (Q : VK) (E : XK), A.guards = some [] → Room k A → Env0 P w K mg base A outer s H → BindsTo s fd args (ps.zip us) → Vals vs us → sp vs H Q E → codeAny (model P w) A (Code.call (Value.ref f) args) (CR CX outer P w H s Q E) s
end Dl
/-! ### repr(x), x None, a tuple or a list of data, where no guards are about -/
namespace Dl
open PySem PySem.Spec PyProof.Rows L2
variable [TabsC]
theorem FnOkG.imp {P : Program} {w : World} {K : Fg} {mg : Str → Option Value} {base : Heap} {CX : CXT} {k : Nat} {f : Addr} {fd : FuncData} {ps : List Str} {sp sp' : Sp} (h : FnOkG P w K mg base CX k f fd ps sp) (g : ∀ (vs : List V) (H : Hp) (Q : VK) (E : XK), sp' vs H Q E → sp vs H Q E) : FnOkG P w K mg base CX k f fd ps sp' :=
  ⟨fun vs H Q E q => h.len vs H Q E (g vs H Q E q), fun A outer s H args us vs Q E hg hr e hb r q => h.run A outer s H args us vs Q E hg hr e hb r (g vs H Q E q)⟩
end Dl
/-! ### sorted(xs, key=lambda row: row[:2]), xs tuples that differ in the two texts at their heads: as a lambda is made, and called -/
/-! ### keys cut from tuples; list(d) of a dict with tuples as keys; what is done with such a list -/
/-! ### try .. except (A, B): a suite, no name -/
namespace LM
open PySem PySem.Spec PyProof.Rows L2
end LM
/-! ### lists of keys: in, ==, slices, remove, enumerate -/
namespace Dl
open PySem PySem.Spec PyProof.Rows L2
variable [TabsC]
instance decMemKs (q : List Key) (kss : List (List Key)) : Decidable (q ∈ kss) := @List.instDecidableMemOfLawfulBEq _ (@instBEqOfDecidableEq _ inferInstance) inferInstance q kss
end Dl
/-! ### values: exceptions that were made, and stand as values (cells .exn) -/
namespace Dl
open PySem PySem.Spec PyProof.Rows L2
variable [TabsC]
/-- what was made to be raised stands as a value -/
theorem pe_made {X : Cx} {e : Expr} {t : L2.St → Hp → XK → Prop} (he : L2N.PMk X e t) : PE X e (fun σ H Q => t σ H (fun cls d H' => ∃ C, cls = .ref C ∧ ∀ a, H' a = none → Q (.ref a) (upd H' a (exv a C d)))) := by
  refine ⟨fun pins s σ H Q I h => ?_⟩
  refine thn (he pins s σ H _ I h) fun u s1 hh => ?_
  obtain ⟨a, oe, vs, sI, H', cls, d, rfl, J, k, hne, ha, hz, hd, h1, na, os, ag, r, C, rfl, q⟩ := hh
  refine ⟨.ref a, upd H' a (exv a C d), ?_, rfl, q a na⟩
  have U : Un (frs X.stack) [] H' (upd H' a (exv a C d)) sI.heap s1.heap := {
    keep := fun b o z n _ _ => k b o z
    slot := fun b o z n _ _ => ⟨o.slots, k b o z⟩
    free := fun b o z n _ => by
      rw [upd_ne (fun e => by rw [e, hne] at z; cases z)]
      exact n
    there := fun b o z _ => ⟨o, k b o z⟩
    tups := fun b xs z => by rw [upd_ne (ne_of_none z na)]; exact z
    frzs := fun b o v z => by rw [upd_ne (ne_of_none z na)]; exact z
    tbls := fun b ps z => ⟨#[], by rw [upd_ne (ne_of_none z na), z]; simp⟩ }
  have hok : HOk X.prog X.w (upd H' a (exv a C d)) s1.heap := fun b o z => by
    by_cases hb : b = a
    · subst hb
      rw [upd_same] at z
      cases z
      exact ⟨⟨oe, vs, ha, hz.1, hz.2.1, hd⟩, ⟨oe, ha⟩, fun h1 h2 ⟨oe, vs, q1, q2, q3, q4⟩ st => ⟨oe, vs, st _ q1, q2, q3, q4⟩⟩
    · rw [upd_ne hb] at z
      exact (J.hok b o z).stay (fun c v _ y => k c v y) (fun c y => by rw [upd_ne (ne_of_none y na)]; exact y) fun c xs y => by rw [upd_ne (ne_of_none y na)]; exact y
  have K := J.call (g' := s1.gens) (t' := s1.toks) (d' := s1.drawn) U hok ag (fun b z => nomatch z)
  obtain ⟨hp, g, dr, tk, o'⟩ := s1
  have e : o' = sI.os := os
  subst e
  exact K
section
variable {X : Cx} {Wx : WX} {k : Nat} {e : Expr} {es : List Expr} {we : DEx} {ws : DA} {p p2 pos : Pos}
/-- C('..'), as a value -/
def dNew0 (nm : Str) : DEx := fun Γ O R xe => R (.c O.length) (O ++ [.exn nm []])
/-- C(e, ..), fields of these names, as a value -/
def dNewF (nm : Str) (fs : List Str) (ws : DA) : DEx := fun Γ O R xe => ws Γ O (fun vs O1 => match datas vs with
  | some ds => ds.length = fs.length ∧ R (.c O1.length) (O1 ++ [.exn nm (fs.zip ds).reverse])
  | none => False) xe
theorem de_new0 {nm m : Str} {j : Nat} (T : XC0 X.K X.mg nm) (hg : Gl X nm := by rfl) (hdb : (nm == ("__debug__" : Str)) = false := by decide) :
    DE X Wx (.Call (.Name nm p) [.Constant (.str m) j p2] [] pos) (dNew0 nm) := by
  obtain ⟨C, hm, hx, hk, hs, hty⟩ := T.ex
  refine pe_imp (fun σ H Q ⟨G, α, Γ, O, R, xe, sl, rel, h, p, xp⟩ => ?_) (pe_made (L2N.pmk_own PySem.F.excBase_ValueError hx hm hk (raises_own hs hty) hg hdb))
  refine ⟨C, rfl, fun a na => ?_⟩
  have ga := rel.ex.free na
  have r2 := rel.cell (c := .exn nm []) na (fun b z => by cases z) ⟨ga, C, none, hm, upd_same, fun _ => rfl, fun z => absurd rfl z⟩
  refine p _ _ h _ _ _ _ (Ex.refl _) Pre.push r2 ⟨a, ?_, rfl⟩
  rw [← rel.len]
  exact List.getElem?_concat_length
theorem de_newF {nm : Str} {fs : List Str} (g : Good X Wx k) (hk : 2 ≤ k) (T : XCF X.prog X.w X.K X.mg X.base nm fs) (hfs : fs ≠ [] := by decide +kernel) (hfl : fs.length ≤ 100 := by decide +kernel) (ha : DAs X Wx (e :: es) ws) (hg : Gl X nm := by rfl) (hdb : (nm == ("__debug__" : Str)) = false := by decide)
    (he : starEach (e :: es) X.env = (false, eval e X.env) :: starEach es X.env := by rfl) (hpl : (backTo pos (starEach es X.env)).any (·.1) = false := by rfl) :
    DE X Wx (.Call (.Name nm p) (e :: es) [] pos) (dNewF nm fs ws) := by
  obtain ⟨C, fI, fd, ps, hm, hT, iC, tI, F, hb, _, hno⟩ := T.ex
  refine pe_imp (fun σ H Q ⟨G, α, Γ, O, R, xe, sl, rel, h, p, xp⟩ => ?_) (pe_made (pmkN_oex (dvs := []) hT iC tI F (g.rm.mono hk) hb .nil L2.pass0 hg hm ha hdb he hpl))
  refine ⟨G, α, Γ, O, _, xe, sl, rel, h, fun vs O1 h1 us G1 α1 H1 e1 p1 rel1 r1 => ?_, xp⟩
  dsimp only at h1
  split at h1
  · next ds ed =>
    rw [datas_eq ed] at r1
    have rp := r1.toD
    have lu : us.length = fs.length := rp.length.trans h1.1
    refine ⟨by omega, fun a na => ?_⟩
    refine ⟨a, C, us ++ [], rfl, by rw [List.append_nil]; exact lu, hT, hno, upd_same, fun d hd hda => ⟨rfl, d, (fs.zip (us ++ [])).reverse, upd_same, by rw [upd_ne hda, upd_same], by rw [upd_ne hda] at hd; exact hd, ?_⟩⟩
    rw [List.append_nil]
    have hd1 : H1 d = none := by rw [upd_ne hda] at hd; exact hd
    have eH : upd (del (upd (upd (upd H1 a (exo a C none)) d (exd d (fs.zip us).reverse)) a (exo a C (some d))) a) d (.xd (fs.zip us).reverse) = upd H1 d (.xd (fs.zip us).reverse) := by
      funext b
      by_cases hb : b = d
      · subst hb; rw [upd_same, upd_same]
      · rw [upd_ne hb, upd_ne hb]
        by_cases hba : b = a
        · subst hba; rw [del_same]; exact na.symm
        · rw [del_ne hba, upd_ne hba, upd_ne hb, upd_ne hba]
    rw [eH]
    have gd : G1 d = none := rel1.ex.free hd1
    have rel2 := rel1.lay (o := .xd (fs.zip us).reverse) hd1
    refine ⟨C, rfl, fun b nb => ?_⟩
    have gb := rel2.ex.free nb
    have hp := paired_rev (zip_paired lu (rp.mono (Ex.new gd (o := .xd (fs.zip us).reverse))))
    have r2 := rel2.cell (c := .exn nm (fs.zip ds).reverse) nb (fun b z => by cases z) ⟨gb, C, some d, hm, upd_same, fun z => absurd z (zip_ne hfs h1.1), fun _ => ⟨d, _, rfl, upd_same, hp⟩⟩
    refine p _ _ h1.2 _ _ _ _ (e1.trans (Ex.new gd)) (p1.trans Pre.push) r2 ⟨b, ?_, rfl⟩
    rw [← rel1.len]
    exact List.getElem?_concat_length
  · exact h1.elim
/-! #### isinstance, of what was made -/
def rIsO (K : Fg) : List V → Hp → VK → Prop := fun xs H Q => ∃ (a C : Addr) (d : Option Addr) (c : V) (cv : Value) (b : Bool), xs = [.ref a, c] ∧ H a = some (exv a C d) ∧ ExcC K C ∧ (∀ u, RelV c u → u = cv) ∧ PySem.W.kitOne K (.ref C) cv = some b ∧ (∀ dd, d = some dd → ∃ fs, H dd = some (.xd fs)) ∧ Q (.bl b) H
theorem inst_exv {Y : Cx} {a C : Addr} {d : Option Addr} {pins : List (Addr × Obj)} {σ : L2.St} {H : Hp} {s : Shared} (ha : H a = some (exv a C d)) (I : Inv Y pins σ H s) (hd : ∀ dd, d = some dd → ∃ fs, H dd = some (.xd fs)) :
    ∃ oe od, PySem.W.InstAt s.heap a oe C od := by
  have hx : ObjOk Y.prog Y.w H s.heap a (exv a C d) := I.hok a _ ha
  obtain ⟨⟨oe, vs, hget, h1, h2, hv⟩, _⟩ := hx
  cases d with
  | none => exact ⟨oe, none, hget, h1, by unfold PySem.W.notCls; rw [hv] <;> rfl, by rw [h2]; trivial⟩
  | some dd =>
    obtain ⟨fs, e⟩ := hd dd rfl
    have hx : ObjOk Y.prog Y.w H s.heap dd (.xd fs) := I.hok dd _ e
    obtain ⟨mA, hns, hr⟩ := hx
    obtain ⟨od, ho, hl⟩ := lookIn_ns hns
    exact ⟨oe, some od, hget, h1, by unfold PySem.W.notCls; rw [hv] <;> rfl, by rw [h2]; exact ho⟩
theorem call_isO {Y : Cx} : CallR Y (.builtin "isinstance") (rIsO Y.K) := by
  intro pins s σ H xs us Q I r h
  obtain ⟨a, C, d, c, cv, b, rfl, ha, E, hcv, e, hd, q⟩ := h
  cases r with
  | cons rx rr =>
    cases rr with
    | cons rt rr =>
      cases rr
      cases rx
      have ec := hcv _ rt
      subst ec
      obtain ⟨oe, od, J⟩ := inst_exv ha I hd
      exact PySem.W.kia_one (kit_exc E) I.kIn J e (fun z => nomatch z) fun tk => ⟨.bl b, H, I.kept (t' := tk) fun _ _ z => z, rfl, q⟩
/-- isinstance(e, D): b of each class -/
def dIsO (cs : List Str) (f : Str → Bool) (we : DEx) : DEx := fun Γ O R xe => we Γ O (fun x O1 => match x with
  | .c j => (match O1[j]? with
    | some (.exn nm fs) => nm ∈ cs ∧ R (.d (.bool (f nm))) O1
    | _ => False)
  | _ => False) xe
structure XIsO (K : Fg) (mg : Str → Option Value) (cs : List Str) (cv : Value) (f : Str → Bool) : Prop where
  ex : ∀ nm ∈ cs, ∀ C, mg nm = some (.ref C) → ExcC K C ∧ PySem.W.kitOne K (.ref C) cv = some (f nm)
theorem de_isO_ {cs : List Str} {f : Str → Bool} {cv : Value} {v : V} {e2 : Expr} (T : XIsO X.K X.mg cs cv f) (hv2 : ∀ u, RelV v u → u = cv) (hb : PE X e2 (tC v)) (nb : X.mg "isinstance" = none) (ha : DE X Wx e we)
    (hv : bootBuiltins "isinstance" = some (.builtin "isinstance")) (hg : Gl X "isinstance")
    (hs : starEach (e :: [e2]) X.env = (false, eval e X.env) :: starEach [e2] X.env) (hs2 : starEach [e2] X.env = (false, eval e2 X.env) :: starEach [] X.env)
    (hpl : (backTo pos (starEach [e2] X.env)).any (·.1) = false) :
    DE X Wx (.Call (.Name "isinstance" p) [e, e2] [] pos) (dIsO cs f we) := by
  refine pe_imp (fun σ H Q ⟨G, α, Γ, O, R, xe, sl, rel, h, p, xp⟩ => ?_) (pe_callB call_isO hg nb hv (pa_cons ha (pa_cons hb pa_nil hs2) hs) (he := hs) (hpl := hpl))
  refine ⟨G, α, Γ, O, _, xe, sl, rel, h, fun y O1 h1 v' G1 α1 H1 e1 p1 rel1 r1 => ?_, xp⟩
  dsimp only at h1
  split at h1
  · next j =>
    split at h1
    · next nm fs ej =>
      obtain ⟨a, ha, rfl⟩ := r1
      obtain ⟨_, C, d, hm, hH, hf⟩ := rel1.at_ j a _ ha ej
      obtain ⟨E, hk⟩ := T.ex nm h1.1 C hm
      refine ⟨a, C, d, v, cv, f nm, rfl, hH, E, hv2, hk, fun dd ed => ?_, p _ _ h1.2 _ _ _ _ e1 p1 rel1 (.bl _)⟩
      subst ed
      by_cases z : fs = []
      · have := hf.1 z
        cases this
      · obtain ⟨d2, vs, q1, q2, _⟩ := hf.2 z
        cases q1
        exact ⟨vs, rel1.ex _ _ q2⟩
    · exact h1.elim
  · exact h1.elim
theorem de_isO {cs : List Str} {D : Str} {DA : Addr} {f : Str → Bool} {pD : Pos} (T : XIsO X.K X.mg cs (.ref DA) f) (hD : X.mg D = some (.ref DA)) (nb : X.mg "isinstance" = none) (ha : DE X Wx e we)
    (hv : bootBuiltins "isinstance" = some (.builtin "isinstance")) (hg : Gl X "isinstance" := by rfl) (hg2 : Gl X D := by rfl) (hdb : (D == ("__debug__" : Str)) = false := by decide)
    (hs : starEach (e :: [.Name D pD]) X.env = (false, eval e X.env) :: starEach [.Name D pD] X.env := by rfl) (hs2 : starEach [.Name D pD] X.env = (false, eval (.Name D pD) X.env) :: starEach [] X.env := by rfl)
    (hpl : (backTo pos (starEach [.Name D pD] X.env)).any (·.1) = false := by rfl) :
    DE X Wx (.Call (.Name "isinstance" p) [e, .Name D pD] [] pos) (dIsO cs f we) :=
  de_isO_ (v := .ref DA) T (fun u r => r) (pe_glob hg2 hD rfl (hd := hdb)) nb ha hv hg hs hs2 hpl
theorem de_isOV {cs : List Str} {pD : Pos} {f : Str → Bool} (T : XIsO X.K X.mg cs (.type "ValueError") f) (nb : X.mg "isinstance" = none) (nv : X.mg "ValueError" = none) (ha : DE X Wx e we)
    (hv : bootBuiltins "isinstance" = some (.builtin "isinstance")) (hv2 : bootBuiltins "ValueError" = some (.type "ValueError")) (hg : Gl X "isinstance" := by rfl) (hg2 : Gl X "ValueError" := by rfl)
    (hs : starEach (e :: [.Name "ValueError" pD]) X.env = (false, eval e X.env) :: starEach [.Name "ValueError" pD] X.env := by rfl) (hs2 : starEach [.Name "ValueError" pD] X.env = (false, eval (.Name "ValueError" pD) X.env) :: starEach [] X.env := by rfl)
    (hpl : (backTo pos (starEach [.Name "ValueError" pD] X.env)).any (·.1) = false := by rfl) :
    DE X Wx (.Call (.Name "isinstance" p) [e, .Name "ValueError" pD] [] pos) (dIsO cs f we) :=
  de_isO_ (v := .ty "ValueError") T (fun u r => r) (pe_bltn hg2 nv hv2 rfl) nb ha hv hg hs hs2 hpl
/-- D is above each of these classes -/
structure XIsB (K : Fg) (mg : Str → Option Value) (cs : List Str) (D : Str) : Prop where
  ex : ∃ DA, mg D = some (.ref DA) ∧ ∀ nm ∈ cs, ∀ C, mg nm = some (.ref C) → PySem.W.kitOne K (.ref C) (.ref DA) = some true
theorem xisb_nil {K : Fg} {mg : Str → Option Value} {DA : Addr} : ∀ nm ∈ ([] : List Str), ∀ C, mg nm = some (.ref C) → PySem.W.kitOne K (.ref C) (.ref DA) = some true := fun _ h => nomatch h
theorem xisb_cons {K : Fg} {mg : Str → Option Value} {DA C0 : Addr} {nm0 : Str} {cs : List Str} (hm : mg nm0 = some (.ref C0)) (h1 : PySem.W.selfFirst K DA = true) (h2 : PySem.W.typeIn K (.ref DA) = some (.type "type")) (h3 : PySem.W.subIn K (.ref C0) (.ref DA) = some true)
    (h : ∀ nm ∈ cs, ∀ C, mg nm = some (.ref C) → PySem.W.kitOne K (.ref C) (.ref DA) = some true) : ∀ nm ∈ nm0 :: cs, ∀ C, mg nm = some (.ref C) → PySem.W.kitOne K (.ref C) (.ref DA) = some true := fun nm hn C hC => by
  rcases List.mem_cons.mp hn with e | hn
  · subst e
    rw [hm] at hC
    cases hC
    unfold PySem.W.kitOne
    by_cases z : (Value.ref C0 == Value.ref DA) = true
    · rw [if_pos z]
    · rw [if_neg z]
      have e0 : (PySem.W.clsIn K DA).isSome = true := by
        unfold PySem.W.selfFirst at h1
        cases hc : PySem.W.clsIn K DA with
        | none => rw [hc] at h1; cases h1
        | some cd => rfl
      have e1 : ((PySem.W.clsIn K DA).isSome && PySem.W.typeIn K (.ref DA) == some (.type "type")) = true := by rw [h2, e0]; rfl
      show (if ((PySem.W.clsIn K DA).isSome && PySem.W.typeIn K (.ref DA) == some (.type "type")) = true then PySem.W.subIn K (.ref C0) (.ref DA) else none) = some true
      rw [if_pos e1]
      exact h3
  · exact h nm hn C hC
theorem de_isOx {cs : List Str} {D : Str} {pD : Pos} (T : XIs X.K X.mg cs D) (V : XIsV X.K X.mg cs "ValueError") (nb : X.mg "isinstance" = none) (ha : DE X Wx e we)
    (hv : bootBuiltins "isinstance" = some (.builtin "isinstance")) (hg : Gl X "isinstance" := by rfl) (hg2 : Gl X D := by rfl) (hdb : (D == ("__debug__" : Str)) = false := by decide)
    (hs : starEach (e :: [.Name D pD]) X.env = (false, eval e X.env) :: starEach [.Name D pD] X.env := by rfl) (hs2 : starEach [.Name D pD] X.env = (false, eval (.Name D pD) X.env) :: starEach [] X.env := by rfl)
    (hpl : (backTo pos (starEach [.Name D pD] X.env)).any (·.1) = false := by rfl) :
    DE X Wx (.Call (.Name "isinstance" p) [e, .Name D pD] [] pos) (dIsO cs (fun nm => nm == D) we) := by
  obtain ⟨DA, hD, hk⟩ := T.ex
  exact de_isO (f := fun nm => nm == D) ⟨fun nm hn C hC => ⟨(V.ex nm hn C hC).1, hk nm hn C hC⟩⟩ hD nb ha hv hg hg2 hdb hs hs2 hpl
theorem de_isOb {cs : List Str} {D : Str} {pD : Pos} (T : XIsB X.K X.mg cs D) (V : XIsV X.K X.mg cs "ValueError") (nb : X.mg "isinstance" = none) (ha : DE X Wx e we)
    (hv : bootBuiltins "isinstance" = some (.builtin "isinstance")) (hg : Gl X "isinstance" := by rfl) (hg2 : Gl X D := by rfl) (hdb : (D == ("__debug__" : Str)) = false := by decide)
    (hs : starEach (e :: [.Name D pD]) X.env = (false, eval e X.env) :: starEach [.Name D pD] X.env := by rfl) (hs2 : starEach [.Name D pD] X.env = (false, eval (.Name D pD) X.env) :: starEach [] X.env := by rfl)
    (hpl : (backTo pos (starEach [.Name D pD] X.env)).any (·.1) = false := by rfl) :
    DE X Wx (.Call (.Name "isinstance" p) [e, .Name D pD] [] pos) (dIsO cs (fun _ => true) we) := by
  obtain ⟨DA, hD, hk⟩ := T.ex
  exact de_isO (f := fun _ => true) ⟨fun nm hn C hC => ⟨(V.ex nm hn C hC).1, hk nm hn C hC⟩⟩ hD nb ha hv hg hg2 hdb hs hs2 hpl
theorem de_isOw {cs : List Str} {pD : Pos} (V : XIsV X.K X.mg cs "ValueError") (nb : X.mg "isinstance" = none) (nv : X.mg "ValueError" = none) (ha : DE X Wx e we)
    (hv : bootBuiltins "isinstance" = some (.builtin "isinstance")) (hv2 : bootBuiltins "ValueError" = some (.type "ValueError")) (hg : Gl X "isinstance" := by rfl) (hg2 : Gl X "ValueError" := by rfl)
    (hs : starEach (e :: [.Name "ValueError" pD]) X.env = (false, eval e X.env) :: starEach [.Name "ValueError" pD] X.env := by rfl) (hs2 : starEach [.Name "ValueError" pD] X.env = (false, eval (.Name "ValueError" pD) X.env) :: starEach [] X.env := by rfl)
    (hpl : (backTo pos (starEach [.Name "ValueError" pD] X.env)).any (·.1) = false := by rfl) :
    DE X Wx (.Call (.Name "isinstance" p) [e, .Name "ValueError" pD] [] pos) (dIsO cs (fun _ => true) we) :=
  de_isOV (f := fun _ => true) ⟨fun nm hn C hC => V.ex nm hn C hC⟩ nb nv ha hv hv2 hg hg2 hs hs2 hpl
/-! #### e.f, of what was made -/
def dXfO (C0 f : Str) (we : DEx) : DEx := fun Γ O R xe => we Γ O (fun x O1 => match x with
  | .c j => (match O1[j]? with
    | some (.exn nm fs) => nm = C0 ∧ (match fs.lookup f with
      | some y => R (.d y) O1
      | none => False)
    | _ => False)
  | _ => False) xe
theorem pe_xfO {te : TE} {n : Str} (he : PE X e te) (hb : attributeBase e n X.env (eval e X.env) = eval e X.env := by rfl) :
    PE X (.Attribute e n pos) (fun σ H Q => te σ H fun x H1 => ∃ a C dd fs v, x = .ref a ∧ XfC X.K C ∧ PySem.W.findIn X.K (.ref C) n = some none ∧ H1 a = some (exv a C (some dd)) ∧ H1 dd = some (.xd fs) ∧ fs.lookup n = some v ∧ Q v H1) := by
  refine ⟨fun pins s σ H Q I h => ?_⟩
  refine attr_of hb (thn (he.run pins s σ H _ I h) fun u s1 hh => ?_)
  obtain ⟨x, H1, I1, rx, a, C, dd, fs, v, rfl, T, hno, ha, hd, l, q⟩ := hh
  obtain rfl : u = Value.ref a := rx
  have hx : ObjOk X.prog X.w H1 s1.heap a (exv a C (some dd)) := I1.hok a _ ha
  obtain ⟨⟨oe, vs, hget, h1, h2, hv⟩, _⟩ := hx
  have hx : ObjOk X.prog X.w H1 s1.heap dd (.xd fs) := I1.hok dd _ hd
  obtain ⟨mA, hns, hr⟩ := hx
  obtain ⟨od, ho, hl⟩ := lookIn_ns hns
  obtain ⟨u, hu, ru⟩ := RelO.some_of (v := v) (o := mA n) (by rw [← l]; exact hr n)
  have J : PySem.W.InstAt s1.heap a oe C (some od) := ⟨hget, h1, by unfold PySem.W.notCls; rw [hv] <;> rfl, by rw [h2]; exact ho⟩
  exact HandSPX.exc_get I1.kIn J T.ga T.gg T.exC (PySem.W.findObj_own T.hdC hno rfl (by rw [hl, hu])) (handed_of ru) ⟨v, H1, I1.tok _, ru, q⟩
theorem de_xfO {C0 f : Str} {fs : List Str} {base : Heap} (T : XCF X.prog X.w X.K X.mg base C0 fs) (hfs : f ∈ fs) (he : DE X Wx e we) (hb : attributeBase e f X.env (eval e X.env) = eval e X.env := by rfl) : DE X Wx (.Attribute e f pos) (dXfO C0 f we) := by
  obtain ⟨C', fI, fd, ps, hm', hT, iC, tI, F, hb', hX, hno⟩ := T.ex
  refine pe_imp (fun σ H Q ⟨G, α, Γ, O, R, xe, sl, rel, h, p, xp⟩ => ?_) (pe_xfO he hb)
  refine ⟨G, α, Γ, O, _, xe, sl, rel, h, fun x O1 h1 v G1 α1 H1 e1 p1 rel1 r1 => ?_, xp⟩
  dsimp only at h1
  split at h1
  · next j =>
    split at h1
    · next nm gs ej =>
      obtain ⟨rfl, h1⟩ := h1
      split at h1
      · next y ey =>
        obtain ⟨a, ha, rfl⟩ := r1
        obtain ⟨_, C, d, hm, hH, hf⟩ := rel1.at_ j a _ ha ej
        rw [hm'] at hm
        cases hm
        obtain ⟨dd, vs, rfl, gd, pr⟩ := hf.2 (fun z => by rw [z] at ey; cases ey)
        obtain ⟨v, lv, rp⟩ := fields_get pr ey
        exact ⟨a, C', dd, vs, v, rfl, hX, hno f hfs, hH, rel1.ex _ _ gd, lv, p _ _ h1 _ _ _ _ e1 p1 rel1 rp⟩
      · exact h1.elim
    · exact h1.elim
  · exact h1.elim
/-! #### enumerate, over a list of cells -/
def csOf : List W → Option (List Nat)
  | [] => some []
  | .c j :: r => (match csOf r with
    | some l => some (j :: l)
    | none => none)
  | _ :: _ => none
theorem csOf_eq : ∀ {ws : List W} {l : List Nat}, csOf ws = some l → ws = l.map W.c
  | [], _, e => by cases e; rfl
  | x :: r, l, e => by
    cases x with
    | c j =>
      unfold csOf at e
      split at e
      · next q eq => cases e; rw [csOf_eq eq]; rfl
      · cases e
    | _ => cases e
theorem csOf_map : ∀ (l : List Nat), csOf (l.map W.c) = some l
  | [] => rfl
  | j :: r => by
    rw [List.map_cons]
    unfold csOf
    rw [csOf_map r]
def enumCW (n : Nat) : List Nat → List W
  | [] => []
  | d :: r => .t [.inl (.int (n : Nat)), .inr d] :: enumCW (n + 1) r
theorem enumCW_len : ∀ (n : Nat) (ds : List Nat), (enumCW n ds).length = ds.length
  | _, [] => rfl
  | n, d :: r => by show (enumCW (n + 1) r).length + 1 = r.length + 1; rw [enumCW_len]
theorem enumCW_get : ∀ (n : Nat) (ds : List Nat) (i : Nat) (d : Nat), ds[i]? = some d → (enumCW n ds)[i]? = some (.t [.inl (.int ((n + i : Nat) : Int)), .inr d])
  | _, [], i, d, h => by simp at h
  | n, d :: r, 0, x, h => by
    simp only [List.getElem?_cons_zero, Option.some.injEq] at h
    subst h
    rfl
  | n, d :: r, i + 1, x, h => by
    show (enumCW (n + 1) r)[i]? = _
    rw [enumCW_get (n + 1) r i x (by simpa using h), Nat.add_right_comm]
    rfl
def dEnumC (ws : DA) : DI := fun Γ O S xe => ws Γ O (fun xs O1 => match xs with
  | [.c j] => (match O1[j]? with
    | some (.lst ys) => (match csOf ys with
      | some cs => S (enumCW 0 cs) (fun O => O[j]? = some (.lst ys)) O1
      | none => False)
    | _ => False)
  | _ => False) xe
theorem di_enumC {p pos tpos : Pos} {elts : List Expr} {kk : Nat} (hm : X.mg "enumerate" = none) (ha : DAs X Wx [e] ws) (hg : Gl X "enumerate" := by rfl) (hs : starEach [e] X.env = [(false, eval e X.env)] := by rfl) :
    DIt X Wx (.Tuple elts kk tpos) (.Call (.Name "enumerate" p) [e] [] pos) (dEnumC ws) := by
  refine pi_imp (fun σ H R ⟨G, α, Γ, O, S, xe, sl, rel, h, xp, q⟩ => ?_) (pi_enumA hg hm ha hs)
  refine ⟨G, α, Γ, O, _, xe, sl, rel, h, fun x O1 h1 v G1 α1 H1 e1 p1 rel1 r1 => ?_, xp⟩
  dsimp only at h1
  split at h1
  · next j =>
    split at h1
    · next ys ej =>
      split at h1
      · next cs ek =>
        obtain ⟨u, rfl, ru⟩ := rv1 r1
        obtain ⟨a, ha, rfl⟩ := ru
        obtain ⟨_, vs, hH, rl⟩ := rel1.at_ j a _ ha ej
        refine ⟨a, vs, rfl, .inl ⟨SqL.of hH, q _ _ _ h1 _ _ _ _ e1 p1 rel1 ?_⟩⟩
        intro i G2 α2 O2 H2 e2 p2 rel2 ok
        obtain ⟨_, vs2, hH2, rl2⟩ := rel2.at_ j a _ (pre_get' p2 ha) ok
        have hs2 : SqL X.K H2 a vs2 := SqL.of hH2
        rw [csOf_eq ek] at rl2
        have hlen : vs2.length = cs.length := by rw [rl2.len, List.length_map]
        refine ⟨fun hi => ⟨vs2, hs2, by rw [enumCW_len] at hi; omega⟩, fun w hw => ?_⟩
        have hi : i < cs.length := by
          have := (List.getElem?_eq_some_iff.mp hw).1
          rwa [enumCW_len] at this
        obtain ⟨d, hd⟩ : ∃ d, cs[i]? = some d := ⟨_, List.getElem?_eq_getElem hi⟩
        rw [enumCW_get 0 cs i d hd] at hw
        cases hw
        obtain ⟨v, hv, rv⟩ := rl2.get (i := i) (w := .c d) (by rw [List.getElem?_map, hd]; rfl)
        refine ⟨⟨vs2, v, hs2, hv⟩, fun x H' y => ?_⟩
        obtain ⟨T, z, rfl, hT, rfl, hz⟩ := y
        have hz := hz vs2 hs2
        rw [hv] at hz
        cases hz
        have gT := rel2.ex.free hT
        refine ⟨_, Ex.new gT, rel2.lay hT, T, _, rfl, upd_same, ?_⟩
        rw [Nat.zero_add]
        exact .cons (.int _) (.cons rv .nil)
      · exact h1.elim
    · exact h1.elim
  · exact h1.elim
end
end Dl
/-! ### readings are gone through, step by step: `repeat refine Go.h ?_` -/
namespace Dl
open PySem PySem.Spec PyProof.Rows L2
/-- where a law makes no lambda, or where it does not matter -/
instance (priority := 10) noTabs : TabsC := ⟨[]⟩
/-- P comes of Q -/
class Go (P : Prop) (Q : outParam Prop) : Prop where
  h : Q → P
/-! #### lists that are written out -/
class Get {α : Type} (l : List α) (i : Nat) (x : outParam α) : Prop where
  e : l[i]? = some x
instance {α : Type} {x : α} {l : List α} : Get (x :: l) 0 x := ⟨rfl⟩
instance {α : Type} {x y : α} {l : List α} {n : Nat} [h : Get l n x] : Get (y :: l) (n + 1) x := ⟨by rw [List.getElem?_cons_succ]; exact h.e⟩
class Put {α : Type} (l : List α) (i : Nat) (x : α) (l' : outParam (List α)) : Prop where
  e : l.set i x = l'
instance {α : Type} {x y : α} {l : List α} : Put (y :: l) 0 x (x :: l) := ⟨rfl⟩
instance {α : Type} {x y : α} {l l' : List α} {n : Nat} [h : Put l n x l'] : Put (y :: l) (n + 1) x (y :: l') := ⟨by rw [List.set_cons_succ, h.e]⟩
class Snoc {α : Type} (l : List α) (x : α) (l' : outParam (List α)) : Prop where
  e : l ++ [x] = l'
instance {α : Type} {x : α} : Snoc [] x [x] := ⟨rfl⟩
instance {α : Type} {x y : α} {l l' : List α} [h : Snoc l x l'] : Snoc (y :: l) x (y :: l') := ⟨by rw [List.cons_append, h.e]⟩
class Cnt {α : Type} (l : List α) (n : outParam Nat) : Prop where
  e : l.length = n
class Sz {α : Type} (l : List α) : Prop where
  e : l.length ≤ 1000000
instance {α : Type} : Cnt ([] : List α) 0 := ⟨rfl⟩
instance {α : Type} : Sz ([] : List α) := ⟨Nat.le_of_ble_eq_true rfl⟩
instance {α : Type} {a : α} : Cnt ([a] : List α) 1 := ⟨rfl⟩
instance {α : Type} {a : α} : Sz ([a] : List α) := ⟨Nat.le_of_ble_eq_true rfl⟩
instance {α : Type} {a b : α} : Cnt ([a, b] : List α) 2 := ⟨rfl⟩
instance {α : Type} {a b : α} : Sz ([a, b] : List α) := ⟨Nat.le_of_ble_eq_true rfl⟩
instance {α : Type} {a b c : α} : Cnt ([a, b, c] : List α) 3 := ⟨rfl⟩
instance {α : Type} {a b c : α} : Sz ([a, b, c] : List α) := ⟨Nat.le_of_ble_eq_true rfl⟩
instance {α : Type} {a b c d : α} : Cnt ([a, b, c, d] : List α) 4 := ⟨rfl⟩
instance {α : Type} {a b c d : α} : Sz ([a, b, c, d] : List α) := ⟨Nat.le_of_ble_eq_true rfl⟩
instance {α : Type} {a b c d e : α} : Cnt ([a, b, c, d, e] : List α) 5 := ⟨rfl⟩
instance {α : Type} {a b c d e : α} : Sz ([a, b, c, d, e] : List α) := ⟨Nat.le_of_ble_eq_true rfl⟩
instance {α : Type} {a b c d e f : α} : Cnt ([a, b, c, d, e, f] : List α) 6 := ⟨rfl⟩
instance {α : Type} {a b c d e f : α} : Sz ([a, b, c, d, e, f] : List α) := ⟨Nat.le_of_ble_eq_true rfl⟩
instance {α : Type} {a b c d e f g : α} : Cnt ([a, b, c, d, e, f, g] : List α) 7 := ⟨rfl⟩
instance {α : Type} {a b c d e f g : α} : Sz ([a, b, c, d, e, f, g] : List α) := ⟨Nat.le_of_ble_eq_true rfl⟩
instance {α : Type} {a b c d e f g h : α} : Cnt ([a, b, c, d, e, f, g, h] : List α) 8 := ⟨rfl⟩
instance {α : Type} {a b c d e f g h : α} : Sz ([a, b, c, d, e, f, g, h] : List α) := ⟨Nat.le_of_ble_eq_true rfl⟩
/-- what never changes, as data -/
class Dats (ws : List W) (ds : outParam (List PyData)) : Prop where
  e : datas ws = some ds
instance : Dats [] [] := ⟨rfl⟩
theorem datas_cons {x : PyData} {ws : List W} {ds : List PyData} (h : datas ws = some ds) : datas (.d x :: ws) = some (x :: ds) := by unfold datas; rw [h]
instance {x : PyData} {ws : List W} {ds : List PyData} [h : Dats ws ds] : Dats (.d x :: ws) (x :: ds) := ⟨datas_cons h.e⟩
instance {ds : List PyData} : Dats (ds.map W.d) ds := ⟨datas_map ds⟩
class MapD (ds : List PyData) (ws : outParam (List W)) : Prop where
  e : ds.map W.d = ws
instance : MapD [] [] := ⟨rfl⟩
instance {x : PyData} {ws : List W} {ds : List PyData} [h : MapD ds ws] : MapD (x :: ds) (.d x :: ws) := ⟨by rw [List.map_cons, h.e]⟩
instance (priority := low) {ds : List PyData} : MapD ds (ds.map W.d) := ⟨rfl⟩
/-! #### the store: what was there, and cells of one's own behind -/
class Len (O : Oh) (n : outParam Nat) : Prop where
  e : O.length = n
class CloC (n : Nat) (O : Oh) : Prop where
  e : Clo n O = true
class Cl (O : Oh) (j : Nat) (c : outParam Cell) : Prop where
  e : O[j]? = some c
instance {O L : Oh} {n k : Nat} {c : Cell} [l : Len O n] [g : Get L k c] : Cl (O ++ L) (n + k) c := ⟨by rw [← l.e, List.getElem?_append_right (Nat.le_add_right _ _), Nat.add_sub_cancel_left]; exact g.e⟩
instance (priority := low) {O L : Oh} {j : Nat} {c : Cell} [g : Cl O j c] : Cl (O ++ L) j c := ⟨by rw [List.getElem?_append_left (List.getElem?_eq_some_iff.mp g.e).1]; exact g.e⟩
/-- a cell put -/
class St (O : Oh) (j : Nat) (c : Cell) (O' : outParam Oh) : Prop where
  e : O.set j c = O'
theorem set_app {O L : Oh} {k : Nat} {c : Cell} : (O ++ L).set (O.length + k) c = O ++ L.set k c := by
  rw [List.set_append_right _ _ (Nat.le_add_right _ _), Nat.add_sub_cancel_left]
instance {O L L' : Oh} {n k : Nat} {c : Cell} [l : Len O n] [g : Put L k c L'] : St (O ++ L) (n + k) c (O ++ L') := ⟨by rw [← l.e, set_app, g.e]⟩
/-- a new cell -/
class Nw (O : Oh) (c : Cell) (j : outParam Nat) (O' : outParam Oh) : Prop where
  e : O.length = j ∧ O ++ [c] = O'
instance {O L L' : Oh} {n k : Nat} {c : Cell} [l : Len O n] [g : Cnt L k] [s : Snoc L c L'] : Nw (O ++ L) c (n + k) (O ++ L') := ⟨by rw [List.length_append, l.e, g.e, List.append_assoc, s.e]; exact ⟨rfl, rfl⟩⟩
/-! #### defs -/
class SG (N : Nat) (ws : List W) (Γ : outParam Gm) : Prop where
  e : startG N ws = Γ
instance : SG 0 [] [] := ⟨rfl⟩
instance {N : Nat} {Γ : Gm} [h : SG N [] Γ] : SG (N + 1) [] (none :: Γ) := ⟨by rw [← h.e]; rfl⟩
instance {N : Nat} {w : W} {ws : List W} {Γ : Gm} [h : SG N ws Γ] : SG (N + 1) (w :: ws) (some w :: Γ) := ⟨by
  rw [← h.e]; unfold startG; rw [List.map_cons, List.length_cons, Nat.add_sub_add_right]; rfl⟩
theorem def_start {N m : Nat} {b : DSt} {ws : List W} {O : Oh} {R : DK} {xe : Exn → Oh → Prop} {Γ : Gm} (hl : ws.length = m) [hg : SG N ws Γ]
    (h : ∀ n, [Len O n] → [CloC n O] → b ⟨fun _ O' => Fin n O' (R (.d .none)), dAns n R, fun _ _ => False, fun _ _ => False⟩ (fun ex _ O' => Fin n O' (xe ex)) Γ (O ++ [])) : dDef N m b ws O R xe := by
  refine ⟨hl, fun c => ?_⟩
  haveI : Len O O.length := ⟨rfl⟩
  haveI : CloC O.length O := ⟨c⟩
  have := h O.length
  rw [List.append_nil] at this
  rw [hg.e]
  exact this
theorem def_startC {N m : Nat} {b : DSt} {ws : List W} {O : Oh} {R : DK} {xe : Exn → Oh → Prop} {Γ : Gm} (hl : ws.length = m) [hg : SG N ws Γ]
    (h : ∀ n, [Len O n] → [CloC n O] → b ⟨fun _ O' => Fin n O' (R (.d .none)), dAnsC n R, fun _ _ => False, fun _ _ => False⟩ (fun ex _ O' => Fin n O' (xe ex)) Γ (O ++ [])) : dDefC N m b ws O R xe := by
  refine ⟨hl, fun c => ?_⟩
  haveI : Len O O.length := ⟨rfl⟩
  haveI : CloC O.length O := ⟨c⟩
  have := h O.length
  rw [List.append_nil] at this
  rw [hg.e]
  exact this
theorem fin_go {O L : Oh} {n : Nat} {k : Oh → Prop} [l : Len O n] [c : CloC n O] (h : k O) : Fin n (O ++ L) k := by
  refine .inr ?_
  rw [← l.e, List.take_left, l.e]
  exact ⟨c.e, h⟩
instance {O L : Oh} {n : Nat} {k : Oh → Prop} [l : Len O n] [c : CloC n O] : Go (Fin n (O ++ L) k) (k O) := ⟨fin_go⟩
instance {O L : Oh} {n : Nat} {R : DK} {x : PyData} [l : Len O n] [c : CloC n O] : Go (dAns n R (.d x) (O ++ L)) (R (.d x) O) := ⟨fin_go (k := R (.d x))⟩
instance {O L : Oh} {n : Nat} {R : DK} {x : PyData} [l : Len O n] [c : CloC n O] : Go (dAnsC n R (.d x) (O ++ L)) (R (.d x) O) := ⟨fin_go (k := R (.d x))⟩
theorem ans_own {O L : Oh} {n k : Nat} {R : DK} {ws : List W} {ds : List PyData} (l : Len O n) (c : CloC n O) (g : Cl (O ++ L) (n + k) (.lst ws)) (d : Dats ws ds) (h : R (.d (.list ds)) O) : dAns n R (.c (n + k)) (O ++ L) := by
  show (if n + k < n then _ else _)
  rw [if_neg (by omega), g.e]
  dsimp only
  rw [d.e]
  exact fin_go (k := R (.d (.list ds))) h
instance {O L : Oh} {n k : Nat} {R : DK} {ws : List W} {ds : List PyData} [l : Len O n] [c : CloC n O] [g : Cl (O ++ L) (n + k) (.lst ws)] [d : Dats ws ds] : Go (dAns n R (.c (n + k)) (O ++ L)) (R (.d (.list ds)) O) := ⟨ans_own l c g d⟩
class CLt (n : Nat) (c : Cell) : Prop where
  e : c.lt n = true
theorem datas_all {n : Nat} : ∀ {ws : List W} {ds : List PyData}, datas ws = some ds → ws.all (W.lt n) = true
  | [], _, _ => rfl
  | .d x :: r, ds, h => by
    unfold datas at h
    split at h
    · next xs e => rw [List.all_cons, datas_all e]; rfl
    · cases h
  | .c _ :: _, _, h | .k _ :: _, _, h | .p _ :: _, _, h | .q _ _ :: _, _, h | .o _ _ _ :: _, _, h | .t _ :: _, _, h => by cases h
instance {n : Nat} {ws : List W} {ds : List PyData} [d : Dats ws ds] : CLt n (.lst ws) := ⟨datas_all d.e⟩
theorem ansC_own {O L : Oh} {n k : Nat} {R : DK} {c : Cell} (l : Len O n) (cl : CloC n O) (g : Get L k c) (hc : CLt n c) (h : R (.c n) (O ++ [c])) : dAnsC n R (.c (n + k)) (O ++ L) := by
  have e : (O ++ L).take n = O := by rw [← l.e, List.take_left]
  refine ⟨Nat.le_add_right _ _, by rw [e]; exact cl.e, c, ?_, hc.e, by rw [e]; exact h⟩
  rw [← l.e, List.getElem?_append_right (Nat.le_add_right _ _), Nat.add_sub_cancel_left]
  exact g.e
instance {O L : Oh} {n k : Nat} {R : DK} {c : Cell} [l : Len O n] [cl : CloC n O] [g : Get L k c] [hc : CLt n c] : Go (dAnsC n R (.c (n + k)) (O ++ L)) (R (.c n) (O ++ [c])) := ⟨ansC_own l cl g hc⟩
/-! #### statements -/
instance {f b c : Gm → Oh → Prop} {r : DK} {Γ : Gm} {O : Oh} {xe : DX} : Go (dNext ⟨f, r, b, c⟩ xe Γ O) (f Γ O) := ⟨fun h => h⟩
instance {f b c : Gm → Oh → Prop} {r : DK} {Γ : Gm} {O : Oh} {xe : DX} {t u : DSt} : Go (dSeq t u ⟨f, r, b, c⟩ xe Γ O) (t ⟨u ⟨f, r, b, c⟩ xe, r, b, c⟩ xe Γ O) := ⟨fun h => h⟩
instance {f b c : Gm → Oh → Prop} {r : DK} {Γ : Gm} {O : Oh} {xe : DX} : Go (dBreak ⟨f, r, b, c⟩ xe Γ O) (b Γ O) := ⟨fun h => h⟩
instance {f b c : Gm → Oh → Prop} {r : DK} {Γ : Gm} {O : Oh} {xe : DX} : Go (dCont ⟨f, r, b, c⟩ xe Γ O) (c Γ O) := ⟨fun h => h⟩
def kDrop (f : Gm → Oh → Prop) (Γ : Gm) : DK := fun _ O => f Γ O
instance {f b c : Gm → Oh → Prop} {r : DK} {Γ : Gm} {O : Oh} {xe : DX} {w : DEx} : Go (dDrop w ⟨f, r, b, c⟩ xe Γ O) (w Γ O (kDrop f Γ) xe) := ⟨fun h => h⟩
instance {f : Gm → Oh → Prop} {Γ : Gm} {x : W} {O : Oh} : Go (kDrop f Γ x O) (f Γ O) := ⟨fun h => h⟩
instance {f b c : Gm → Oh → Prop} {r : DK} {Γ : Gm} {O : Oh} {xe : DX} {w : DEx} : Go (dRet w ⟨f, r, b, c⟩ xe Γ O) (w Γ O r xe) := ⟨fun h => h⟩
instance {f b c : Gm → Oh → Prop} {r : DK} {Γ : Gm} {O : Oh} {xe : DX} : Go (dRetN ⟨f, r, b, c⟩ xe Γ O) (r (.d .none) O) := ⟨fun h => h⟩
def kIf (t u : DSt) (D : DEnds) (xe : DX) (Γ : Gm) : Bool → Oh → Prop := fun b O => if b = true then t D xe Γ O else u D xe Γ O
instance {Γ : Gm} {O : Oh} {xe : DX} {D : DEnds} {c : DT} {t u : DSt} : Go (dIf c t u D xe Γ O) (c Γ O (kIf t u D xe Γ) xe) := ⟨fun h => h⟩
instance {Γ : Gm} {O : Oh} {xe : DX} {D : DEnds} {t u : DSt} : Go (kIf t u D xe Γ true O) (t D xe Γ O) := ⟨fun h => by unfold kIf; rw [if_pos rfl]; exact h⟩
instance {Γ : Gm} {O : Oh} {xe : DX} {D : DEnds} {t u : DSt} : Go (kIf t u D xe Γ false O) (u D xe Γ O) := ⟨fun h => by unfold kIf; rw [if_neg Bool.false_ne_true]; exact h⟩
def kAsg (t : Tg) (f : Gm → Oh → Prop) (Γ : Gm) : DK := fun x O => t.put x Γ fun Γ' => f Γ' O
instance {f b c : Gm → Oh → Prop} {r : DK} {Γ : Gm} {O : Oh} {xe : DX} {w : DEx} {t : Tg} : Go (dAsg w t ⟨f, r, b, c⟩ xe Γ O) (w Γ O (kAsg t f Γ) xe) := ⟨fun h => h⟩
instance {f : Gm → Oh → Prop} {Γ : Gm} {x : W} {O : Oh} {t : Tg} : Go (kAsg t f Γ x O) (t.put x Γ fun Γ' => f Γ' O) := ⟨fun h => h⟩
theorem put_nm {Γ Γ' : Gm} {i : Nat} {x : W} {R : Gm → Prop} [g : Put Γ i (some x) Γ'] (h : R Γ') : (Tg.nm i).put x Γ R := by unfold Tg.put; rw [g.e]; exact h
instance {Γ Γ' : Gm} {i : Nat} {x : W} {R : Gm → Prop} [g : Put Γ i (some x) Γ'] : Go ((Tg.nm i).put x Γ R) (R Γ') := ⟨put_nm⟩
theorem put_tup {Γ : Gm} {ts : List Tg} {ds : List PyData} {ws : List W} {R : Gm → Prop} [m : MapD ds ws] (h : Tg.puts ts ws Γ R) : (Tg.tup ts).put (.d (.tuple ds)) Γ R := by unfold Tg.put; dsimp only; rw [m.e]; exact h
instance {Γ : Gm} {ts : List Tg} {ds : List PyData} {ws : List W} {R : Gm → Prop} [m : MapD ds ws] : Go ((Tg.tup ts).put (.d (.tuple ds)) Γ R) (Tg.puts ts ws Γ R) := ⟨put_tup⟩
theorem put_p {Γ : Gm} {ts : List Tg} {ds : List PyData} {ws : List W} {R : Gm → Prop} [m : MapD ds ws] (h : Tg.puts ts ws Γ R) : (Tg.tup ts).put (.p ds) Γ R := by unfold Tg.put; dsimp only; rw [m.e]; exact h
instance {Γ : Gm} {ts : List Tg} {ds : List PyData} {ws : List W} {R : Gm → Prop} [m : MapD ds ws] : Go ((Tg.tup ts).put (.p ds) Γ R) (Tg.puts ts ws Γ R) := ⟨put_p⟩
instance {Γ : Gm} {R : Gm → Prop} : Go (Tg.puts [] [] Γ R) (R Γ) := ⟨fun h => by unfold Tg.puts; exact h⟩
instance {Γ : Gm} {t : Tg} {ts : List Tg} {w : W} {ws : List W} {R : Gm → Prop} : Go (Tg.puts (t :: ts) (w :: ws) Γ R) (t.put w Γ fun Γ1 => Tg.puts ts ws Γ1 R) := ⟨fun h => by unfold Tg.puts; exact h⟩
def kPar (i j : Nat) (f : Gm → Oh → Prop) (Γ : Gm) : List W → Oh → Prop := fun vs O => match vs with
  | [v, w] => f ((Γ.set i (some v)).set j (some w)) O
  | _ => False
instance {f b c : Gm → Oh → Prop} {r : DK} {Γ : Gm} {O : Oh} {xe : DX} {i j : Nat} {ws : DA} : Go (dPar i j ws ⟨f, r, b, c⟩ xe Γ O) (ws Γ O (kPar i j f Γ) xe) := ⟨fun h => h⟩
instance {f : Gm → Oh → Prop} {Γ Γ1 Γ2 : Gm} {i j : Nat} {v w : W} {O : Oh} [g1 : Put Γ i (some v) Γ1] [g2 : Put Γ1 j (some w) Γ2] : Go (kPar i j f Γ [v, w] O) (f Γ2 O) := ⟨fun h => by unfold kPar; dsimp only; rw [g1.e, g2.e]; exact h⟩
/-! #### expressions -/
theorem go_var {Γ : Gm} {O : Oh} {R : DK} {xe : DX} {i : Nat} {w : W} [g : Get Γ i (some w)] (h : R w O) : dVar i Γ O R xe := by unfold dVar; rw [g.e]; exact h
instance {Γ : Gm} {O : Oh} {R : DK} {xe : DX} {i : Nat} {w : W} [g : Get Γ i (some w)] : Go (dVar i Γ O R xe) (R w O) := ⟨go_var⟩
instance {R : DK} {Γ : Gm} {O : Oh} {xe : DX} {x : PyData} : Go (dC x Γ O R xe) (R (.d x) O) := ⟨fun h => h⟩
def kOp2 (f : D2) (x : W) (R : DK) : DK := fun y O => f x y O R
def kOp1 (f : D2) (wb : DEx) (Γ : Gm) (R : DK) (xe : DX) : DK := fun x O => wb Γ O (kOp2 f x R) xe
instance {R : DK} {Γ : Gm} {O : Oh} {xe : DX} {f : D2} {wa wb : DEx} : Go (dOp f wa wb Γ O R xe) (wa Γ O (kOp1 f wb Γ R xe) xe) := ⟨fun h => h⟩
instance {R : DK} {Γ : Gm} {O : Oh} {xe : DX} {f : D2} {wb : DEx} {x : W} : Go (kOp1 f wb Γ R xe x O) (wb Γ O (kOp2 f x R) xe) := ⟨fun h => h⟩
instance {R : DK} {O : Oh} {f : D2} {x y : W} : Go (kOp2 f x R y O) (f x y O R) := ⟨fun h => h⟩
def kB (R : Bool → Oh → Prop) : DK := fun r O => match r with
  | .d (.bool b) => R b O
  | _ => False
instance {R : Bool → Oh → Prop} {Γ : Gm} {O : Oh} {xe : DX} {w : DEx} : Go (dB w Γ O R xe) (w Γ O (kB R) xe) := ⟨fun h => h⟩
instance {R : Bool → Oh → Prop} {O : Oh} {b : Bool} : Go (kB R (.d (.bool b)) O) (R b O) := ⟨fun h => h⟩
instance {R : Bool → Oh → Prop} {Γ : Gm} {O : Oh} {xe : DX} : Go (dYes Γ O R xe) (R true O) := ⟨fun h => h⟩
def kAnd (u : DT) (Γ : Gm) (R : Bool → Oh → Prop) (xe : DX) : Bool → Oh → Prop := fun b O => if b = true then u Γ O R xe else R false O
instance {R : Bool → Oh → Prop} {Γ : Gm} {O : Oh} {xe : DX} {t u : DT} : Go (dAnd t u Γ O R xe) (t Γ O (kAnd u Γ R xe) xe) := ⟨fun h => h⟩
instance {R : Bool → Oh → Prop} {Γ : Gm} {O : Oh} {xe : DX} {u : DT} : Go (kAnd u Γ R xe true O) (u Γ O R xe) := ⟨fun h => by unfold kAnd; rw [if_pos rfl]; exact h⟩
instance {R : Bool → Oh → Prop} {Γ : Gm} {O : Oh} {xe : DX} {u : DT} : Go (kAnd u Γ R xe false O) (R false O) := ⟨fun h => by unfold kAnd; rw [if_neg Bool.false_ne_true]; exact h⟩
def kOr (u : DT) (Γ : Gm) (R : Bool → Oh → Prop) (xe : DX) : Bool → Oh → Prop := fun b O => if b = true then R true O else u Γ O R xe
instance {R : Bool → Oh → Prop} {Γ : Gm} {O : Oh} {xe : DX} {t u : DT} : Go (dOr t u Γ O R xe) (t Γ O (kOr u Γ R xe) xe) := ⟨fun h => h⟩
instance {R : Bool → Oh → Prop} {Γ : Gm} {O : Oh} {xe : DX} {u : DT} : Go (kOr u Γ R xe true O) (R true O) := ⟨fun h => by unfold kOr; rw [if_pos rfl]; exact h⟩
instance {R : Bool → Oh → Prop} {Γ : Gm} {O : Oh} {xe : DX} {u : DT} : Go (kOr u Γ R xe false O) (u Γ O R xe) := ⟨fun h => by unfold kOr; rw [if_neg Bool.false_ne_true]; exact h⟩
def kNot (R : Bool → Oh → Prop) : Bool → Oh → Prop := fun b O => R (!b) O
instance {R : Bool → Oh → Prop} {Γ : Gm} {O : Oh} {xe : DX} {t : DT} : Go (dNot t Γ O R xe) (t Γ O (kNot R) xe) := ⟨fun h => h⟩
instance {R : Bool → Oh → Prop} {O : Oh} : Go (kNot R true O) (R false O) := ⟨fun h => h⟩
instance {R : Bool → Oh → Prop} {O : Oh} : Go (kNot R false O) (R true O) := ⟨fun h => h⟩
def kAndV (wb : DEx) (Γ : Gm) (R : DK) (xe : DX) : DK := fun r O => match r with
  | .d (.bool b) => if b = true then wb Γ O R xe else R (.d (.bool false)) O
  | _ => False
instance {R : DK} {Γ : Gm} {O : Oh} {xe : DX} {wa wb : DEx} : Go (dAndV wa wb Γ O R xe) (wa Γ O (kAndV wb Γ R xe) xe) := ⟨fun h => h⟩
instance {R : DK} {Γ : Gm} {O : Oh} {xe : DX} {wb : DEx} : Go (kAndV wb Γ R xe (.d (.bool true)) O) (wb Γ O R xe) := ⟨fun h => by unfold kAndV; dsimp only; rw [if_pos rfl]; exact h⟩
instance {R : DK} {Γ : Gm} {O : Oh} {xe : DX} {wb : DEx} : Go (kAndV wb Γ R xe (.d (.bool false)) O) (R (.d (.bool false)) O) := ⟨fun h => by unfold kAndV; dsimp only; rw [if_neg Bool.false_ne_true]; exact h⟩
def kOrV (wb : DEx) (Γ : Gm) (R : DK) (xe : DX) : DK := fun r O => match r with
  | .d (.bool b) => if b = true then R (.d (.bool true)) O else wb Γ O R xe
  | _ => False
instance {R : DK} {Γ : Gm} {O : Oh} {xe : DX} {wa wb : DEx} : Go (dOrV wa wb Γ O R xe) (wa Γ O (kOrV wb Γ R xe) xe) := ⟨fun h => h⟩
instance {R : DK} {Γ : Gm} {O : Oh} {xe : DX} {wb : DEx} : Go (kOrV wb Γ R xe (.d (.bool true)) O) (R (.d (.bool true)) O) := ⟨fun h => by unfold kOrV; dsimp only; rw [if_pos rfl]; exact h⟩
instance {R : DK} {Γ : Gm} {O : Oh} {xe : DX} {wb : DEx} : Go (kOrV wb Γ R xe (.d (.bool false)) O) (wb Γ O R xe) := ⟨fun h => by unfold kOrV; dsimp only; rw [if_neg Bool.false_ne_true]; exact h⟩
def kNotV (R : DK) : DK := fun r O => match r with
  | .d (.bool b) => R (.d (.bool (!b))) O
  | _ => False
instance {R : DK} {Γ : Gm} {O : Oh} {xe : DX} {w : DEx} : Go (dNotV w Γ O R xe) (w Γ O (kNotV R) xe) := ⟨fun h => h⟩
instance {R : DK} {O : Oh} {b : Bool} : Go (kNotV R (.d (.bool b)) O) (R (.d (.bool (!b))) O) := ⟨fun h => h⟩
def kIfE (wa wb : DEx) (Γ : Gm) (R : DK) (xe : DX) : Bool → Oh → Prop := fun b O => if b = true then wa Γ O R xe else wb Γ O R xe
instance {R : DK} {Γ : Gm} {O : Oh} {xe : DX} {t : DT} {wa wb : DEx} : Go (dIfE t wa wb Γ O R xe) (t Γ O (kIfE wa wb Γ R xe) xe) := ⟨fun h => h⟩
instance {R : DK} {Γ : Gm} {O : Oh} {xe : DX} {wa wb : DEx} : Go (kIfE wa wb Γ R xe true O) (wa Γ O R xe) := ⟨fun h => by unfold kIfE; rw [if_pos rfl]; exact h⟩
instance {R : DK} {Γ : Gm} {O : Oh} {xe : DX} {wa wb : DEx} : Go (kIfE wa wb Γ R xe false O) (wb Γ O R xe) := ⟨fun h => by unfold kIfE; rw [if_neg Bool.false_ne_true]; exact h⟩
instance {R : List W → Oh → Prop} {Γ : Gm} {O : Oh} {xe : DX} : Go (dNil Γ O R xe) (R [] O) := ⟨fun h => h⟩
def kCons2 (x : W) (R : List W → Oh → Prop) : List W → Oh → Prop := fun xs O => R (x :: xs) O
def kCons1 (ws : DA) (Γ : Gm) (R : List W → Oh → Prop) (xe : DX) : DK := fun x O => ws Γ O (kCons2 x R) xe
instance {R : List W → Oh → Prop} {Γ : Gm} {O : Oh} {xe : DX} {wa : DEx} {ws : DA} : Go (dCons wa ws Γ O R xe) (wa Γ O (kCons1 ws Γ R xe) xe) := ⟨fun h => h⟩
instance {R : List W → Oh → Prop} {Γ : Gm} {O : Oh} {xe : DX} {x : W} {ws : DA} : Go (kCons1 ws Γ R xe x O) (ws Γ O (kCons2 x R) xe) := ⟨fun h => h⟩
instance {R : List W → Oh → Prop} {O : Oh} {x : W} {xs : List W} : Go (kCons2 x R xs O) (R (x :: xs) O) := ⟨fun h => h⟩
def kTup (R : DK) : List W → Oh → Prop := fun ws O => match datas ws with
  | some ds => ds.length ≤ 1000000 ∧ R (.d (.tuple ds)) O
  | none => False
instance {R : DK} {Γ : Gm} {O : Oh} {xe : DX} {ws : DA} : Go (dTup ws Γ O R xe) (ws Γ O (kTup R) xe) := ⟨fun h => h⟩
theorem go_tuple {R : DK} {O : Oh} {ws : List W} {ds : List PyData} [d : Dats ws ds] [z : Sz ds] (h : R (.d (.tuple ds)) O) : kTup R ws O := by unfold kTup; rw [d.e]; exact ⟨z.e, h⟩
instance {R : DK} {O : Oh} {ws : List W} {ds : List PyData} [d : Dats ws ds] [z : Sz ds] : Go (kTup R ws O) (R (.d (.tuple ds)) O) := ⟨go_tuple⟩
def kLst (R : DK) : List W → Oh → Prop := fun ws O => match datas ws with
  | some ds => ds.length ≤ 1000000 ∧ R (.d (.list ds)) O
  | none => False
instance {R : DK} {Γ : Gm} {O : Oh} {xe : DX} {ws : DA} : Go (dLst ws Γ O R xe) (ws Γ O (kLst R) xe) := ⟨fun h => h⟩
theorem go_list {R : DK} {O : Oh} {ws : List W} {ds : List PyData} [d : Dats ws ds] [z : Sz ds] (h : R (.d (.list ds)) O) : kLst R ws O := by unfold kLst; rw [d.e]; exact ⟨z.e, h⟩
instance {R : DK} {O : Oh} {ws : List W} {ds : List PyData} [d : Dats ws ds] [z : Sz ds] : Go (kLst R ws O) (R (.d (.list ds)) O) := ⟨go_list⟩
def kLstC (R : DK) : List W → Oh → Prop := fun ws O => ws.length ≤ 1000000 ∧ R (.c O.length) (O ++ [.lst ws])
instance {R : DK} {Γ : Gm} {O : Oh} {xe : DX} {ws : DA} : Go (dLstC ws Γ O R xe) (ws Γ O (kLstC R) xe) := ⟨fun h => h⟩
theorem go_lstC {R : DK} {O O' : Oh} {j : Nat} {ws : List W} [z : Sz ws] [n : Nw O (.lst ws) j O'] (h : R (.c j) O') : kLstC R ws O := by refine ⟨z.e, ?_⟩; rw [n.e.1, n.e.2]; exact h
instance {R : DK} {O O' : Oh} {j : Nat} {ws : List W} [z : Sz ws] [n : Nw O (.lst ws) j O'] : Go (kLstC R ws O) (R (.c j) O') := ⟨go_lstC⟩
theorem go_dicK {R : DK} {O O' : Oh} {Γ : Gm} {xe : DX} {j : Nat} [n : Nw O (.dic []) j O'] (h : R (.c j) O') : dDicK Γ O R xe := by unfold dDicK; rw [n.e.1, n.e.2]; exact h
instance {R : DK} {O O' : Oh} {Γ : Gm} {xe : DX} {j : Nat} [n : Nw O (.dic []) j O'] : Go (dDicK Γ O R xe) (R (.c j) O') := ⟨go_dicK⟩
instance {R : DK} {O O' : Oh} {Γ : Gm} {xe : DX} {j : Nat} [n : Nw O (.dct []) j O'] : Go (dDicT Γ O R xe) (R (.c j) O') := ⟨fun h => by unfold dDicT; rw [n.e.1, n.e.2]; exact h⟩
instance {R : DK} {Γ : Gm} {O : Oh} {xe : DX} : Go (dDicE Γ O R xe) (R (.d (.dict [])) O) := ⟨fun h => h⟩
def kCB (f : DC) (R : DK) : List W → Oh → Prop := fun xs O => f xs O R
instance {R : DK} {Γ : Gm} {O : Oh} {xe : DX} {f : DC} {ws : DA} : Go (dCB f ws Γ O R xe) (ws Γ O (kCB f R) xe) := ⟨fun h => h⟩
instance {R : DK} {O : Oh} {f : DC} {xs : List W} : Go (kCB f R xs O) (f xs O R) := ⟨fun h => h⟩
def kC0 (f : DFn) (R : DK) : List W → Oh → Prop := fun xs O => f xs O R fun _ _ => False
instance {R : DK} {Γ : Gm} {O : Oh} {xe : DX} {f : DFn} {ws : DA} : Go (dCall0 f ws Γ O R xe) (ws Γ O (kC0 f R) xe) := ⟨fun h => h⟩
instance {R : DK} {O : Oh} {f : DFn} {xs : List W} : Go (kC0 f R xs O) (f xs O R fun _ _ => False) := ⟨fun h => h⟩
def kC (f : DFn) (Γ : Gm) (R : DK) (xe : DX) : List W → Oh → Prop := fun xs O => f xs O R fun ex O2 => xe ex Γ O2
instance {R : DK} {Γ : Gm} {O : Oh} {xe : DX} {f : DFn} {ws : DA} : Go (dCall f ws Γ O R xe) (ws Γ O (kC f Γ R xe) xe) := ⟨fun h => h⟩
instance {R : DK} {Γ : Gm} {O : Oh} {xe : DX} {f : DFn} {xs : List W} : Go (kC f Γ R xe xs O) (f xs O R fun ex O2 => xe ex Γ O2) := ⟨fun h => h⟩
def kNeg (R : DK) : DK := fun r O => match r with
  | .d (.int i) => R (.d (.int (-i))) O
  | _ => False
instance {R : DK} {Γ : Gm} {O : Oh} {xe : DX} {w : DEx} : Go (dNeg w Γ O R xe) (w Γ O (kNeg R) xe) := ⟨fun h => h⟩
instance {R : DK} {O : Oh} {i : Int} : Go (kNeg R (.d (.int i)) O) (R (.d (.int (-i))) O) := ⟨fun h => h⟩
/-- what type a thing has -/
class TyW (x : W) (O : Oh) (t : outParam String) : Prop where
  e : tyW x O = some t
instance {O : Oh} : TyW (.d (.none)) O "NoneType" := ⟨rfl⟩
instance {b : Bool} {O : Oh} : TyW (.d (.bool b)) O "bool" := ⟨rfl⟩
instance {i : Int} {O : Oh} : TyW (.d (.int i)) O "int" := ⟨rfl⟩
instance {s : Str} {O : Oh} : TyW (.d (.str s)) O "str" := ⟨rfl⟩
instance {l : List PyData} {O : Oh} : TyW (.d (.list l)) O "list" := ⟨rfl⟩
instance {l : List PyData} {O : Oh} : TyW (.d (.tuple l)) O "tuple" := ⟨rfl⟩
instance {O : Oh} : TyW (.d (.dict [])) O "dict" := ⟨rfl⟩
class SubT (t T : String) (b : outParam Bool) : Prop where
  e : subT t T = b
instance : SubT "NoneType" "bool" false := ⟨by decide⟩
instance : SubT "NoneType" "int" false := ⟨by decide⟩
instance : SubT "NoneType" "str" false := ⟨by decide⟩
instance : SubT "NoneType" "list" false := ⟨by decide⟩
instance : SubT "NoneType" "tuple" false := ⟨by decide⟩
instance : SubT "NoneType" "dict" false := ⟨by decide⟩
instance : SubT "bool" "bool" true := ⟨by decide⟩
instance : SubT "bool" "int" true := ⟨by decide⟩
instance : SubT "bool" "str" false := ⟨by decide⟩
instance : SubT "bool" "list" false := ⟨by decide⟩
instance : SubT "bool" "tuple" false := ⟨by decide⟩
instance : SubT "bool" "dict" false := ⟨by decide⟩
instance : SubT "int" "bool" false := ⟨by decide⟩
instance : SubT "int" "int" true := ⟨by decide⟩
instance : SubT "int" "str" false := ⟨by decide⟩
instance : SubT "int" "list" false := ⟨by decide⟩
instance : SubT "int" "tuple" false := ⟨by decide⟩
instance : SubT "int" "dict" false := ⟨by decide⟩
instance : SubT "str" "bool" false := ⟨by decide⟩
instance : SubT "str" "int" false := ⟨by decide⟩
instance : SubT "str" "str" true := ⟨by decide⟩
instance : SubT "str" "list" false := ⟨by decide⟩
instance : SubT "str" "tuple" false := ⟨by decide⟩
instance : SubT "str" "dict" false := ⟨by decide⟩
instance : SubT "list" "bool" false := ⟨by decide⟩
instance : SubT "list" "int" false := ⟨by decide⟩
instance : SubT "list" "str" false := ⟨by decide⟩
instance : SubT "list" "list" true := ⟨by decide⟩
instance : SubT "list" "tuple" false := ⟨by decide⟩
instance : SubT "list" "dict" false := ⟨by decide⟩
instance : SubT "tuple" "bool" false := ⟨by decide⟩
instance : SubT "tuple" "int" false := ⟨by decide⟩
instance : SubT "tuple" "str" false := ⟨by decide⟩
instance : SubT "tuple" "list" false := ⟨by decide⟩
instance : SubT "tuple" "tuple" true := ⟨by decide⟩
instance : SubT "tuple" "dict" false := ⟨by decide⟩
instance : SubT "dict" "bool" false := ⟨by decide⟩
instance : SubT "dict" "int" false := ⟨by decide⟩
instance : SubT "dict" "str" false := ⟨by decide⟩
instance : SubT "dict" "list" false := ⟨by decide⟩
instance : SubT "dict" "tuple" false := ⟨by decide⟩
instance : SubT "dict" "dict" true := ⟨by decide⟩
def kIsi (T : String) (R : DK) : DK := fun x O => match tyW x O with
  | some t => R (.d (.bool (subT t T))) O
  | none => False
instance {R : DK} {Γ : Gm} {O : Oh} {xe : DX} {T : String} {w : DEx} : Go (dIsi T w Γ O R xe) (w Γ O (kIsi T R) xe) := ⟨fun h => h⟩
theorem go_isi {R : DK} {O : Oh} {T t : String} {x : W} {b : Bool} [h1 : TyW x O t] [h2 : SubT t T b] (h : R (.d (.bool b)) O) : kIsi T R x O := by unfold kIsi; rw [h1.e]; dsimp only; rw [h2.e]; exact h
instance {R : DK} {O : Oh} {T t : String} {x : W} {b : Bool} [h1 : TyW x O t] [h2 : SubT t T b] : Go (kIsi T R x O) (R (.d (.bool b)) O) := ⟨go_isi⟩
/-! #### slices, ends -/
instance {R : Option Int → Oh → Prop} {Γ : Gm} {O : Oh} {xe : DX} : Go (dO0 Γ O R xe) (R none O) := ⟨fun h => h⟩
def kO1 (R : Option Int → Oh → Prop) : DK := fun x O => match x with
  | .d (.int i) => R (some i) O
  | _ => False
instance {R : Option Int → Oh → Prop} {Γ : Gm} {O : Oh} {xe : DX} {w : DEx} : Go (dO1 w Γ O R xe) (w Γ O (kO1 R) xe) := ⟨fun h => h⟩
instance {R : Option Int → Oh → Prop} {O : Oh} {i : Int} : Go (kO1 R (.d (.int i)) O) (R (some i) O) := ⟨fun h => h⟩
def kSl3 (x : W) (lo : Option Int) (R : DK) : Option Int → Oh → Prop := fun hi O => dSl x lo hi O R
def kSl2 (x : W) (wh : DO) (Γ : Gm) (R : DK) (xe : DX) : Option Int → Oh → Prop := fun lo O => wh Γ O (kSl3 x lo R) xe
def kSl1 (wl wh : DO) (Γ : Gm) (R : DK) (xe : DX) : DK := fun x O => wl Γ O (kSl2 x wh Γ R xe) xe
instance {R : DK} {Γ : Gm} {O : Oh} {xe : DX} {wo : DEx} {wl wh : DO} : Go (dSlice wo wl wh Γ O R xe) (wo Γ O (kSl1 wl wh Γ R xe) xe) := ⟨fun h => h⟩
instance {R : DK} {Γ : Gm} {O : Oh} {xe : DX} {x : W} {wl wh : DO} : Go (kSl1 wl wh Γ R xe x O) (wl Γ O (kSl2 x wh Γ R xe) xe) := ⟨fun h => h⟩
instance {R : DK} {Γ : Gm} {O : Oh} {xe : DX} {x : W} {wh : DO} {lo : Option Int} : Go (kSl2 x wh Γ R xe lo O) (wh Γ O (kSl3 x lo R) xe) := ⟨fun h => h⟩
instance {R : DK} {O : Oh} {x : W} {lo hi : Option Int} : Go (kSl3 x lo R hi O) (dSl x lo hi O R) := ⟨fun h => h⟩
instance {R : DK} {O : Oh} {ds : List PyData} {lo hi : Option Int} : Go (dSl (.d (.tuple ds)) lo hi O R) (R (.d (.tuple (cutL ds lo hi))) O) := ⟨fun h => h⟩
instance {R : DK} {O : Oh} {ds : List PyData} {lo hi : Option Int} : Go (dSl (.d (.list ds)) lo hi O R) (R (.d (.list (cutL ds lo hi))) O) := ⟨fun h => h⟩
class AsL (x : W) (O : Oh) (ws : outParam (List W)) : Prop where
  e : asL x O = some ws
instance {O : Oh} {ds : List PyData} {ws : List W} [m : MapD ds ws] : AsL (.d (.list ds)) O ws := ⟨by rw [← m.e]; rfl⟩
instance {O : Oh} {j : Nat} {ws : List W} [g : Cl O j (.lst ws)] : AsL (.c j) O ws := ⟨by unfold asL; dsimp only; rw [g.e]⟩
class AsS (x : W) (O : Oh) (ws : outParam (List W)) : Prop where
  e : asS x O = some ws
instance {O : Oh} {ds : List PyData} {ws : List W} [m : MapD ds ws] : AsS (.d (.list ds)) O ws := ⟨by rw [← m.e]; rfl⟩
instance {O : Oh} {ds : List PyData} {ws : List W} [m : MapD ds ws] : AsS (.d (.tuple ds)) O ws := ⟨by rw [← m.e]; rfl⟩
instance {O : Oh} {ds : List PyData} {ws : List W} [m : MapD ds ws] : AsS (.p ds) O ws := ⟨by rw [← m.e]; rfl⟩
instance {O : Oh} {j : Nat} {ws : List W} [g : Cl O j (.lst ws)] : AsS (.c j) O ws := ⟨by unfold asS; dsimp only; rw [g.e]⟩
instance {O : Oh} {ns : List Int} : AsS (.d (.dict [(.none, .list (ns.map PyData.int))])) O ((ns.map PyData.int).map W.d) := ⟨rfl⟩
class NoDk (x : W) (O : Oh) : Prop where
  e : asDk x O = none
instance {O : Oh} : NoDk (.d .none) O := ⟨rfl⟩
instance {O : Oh} {b : Bool} : NoDk (.d (.bool b)) O := ⟨rfl⟩
instance {O : Oh} {i : Int} : NoDk (.d (.int i)) O := ⟨rfl⟩
instance {O : Oh} {s : Str} : NoDk (.d (.str s)) O := ⟨rfl⟩
instance {O : Oh} {l : List PyData} : NoDk (.d (.list l)) O := ⟨rfl⟩
instance {O : Oh} {l : List PyData} : NoDk (.d (.tuple l)) O := ⟨rfl⟩
instance {O : Oh} {l : PyData} : NoDk (.d (.dict [(.none, l)])) O := ⟨rfl⟩
instance {O : Oh} {ds : List PyData} : NoDk (.p ds) O := ⟨rfl⟩
instance {O : Oh} {j : Nat} {ws : List W} [g : Cl O j (.lst ws)] : NoDk (.c j) O := ⟨by unfold asDk; dsimp only; rw [g.e]⟩
class IsDk (x : W) (O : Oh) (kvs : outParam (List (Key × W))) : Prop where
  e : asDk x O = some kvs
instance {O : Oh} {j : Nat} {kvs : List (Key × W)} [g : Cl O j (.dic kvs)] : IsDk (.c j) O kvs := ⟨by unfold asDk; dsimp only; rw [g.e]⟩
instance {O : Oh} {j : Nat} {od : Obj} {es : List (Key × V)} {kvs : List (Key × W)} [g : Cl O j (.ldic od es kvs)] : IsDk (.c j) O kvs := ⟨by unfold asDk; dsimp only; rw [g.e]⟩
class NoDi (x : W) (O : Oh) : Prop where
  e : isDictW x O = false
instance {O : Oh} : NoDi (.d .none) O := ⟨rfl⟩
instance {O : Oh} {b : Bool} : NoDi (.d (.bool b)) O := ⟨rfl⟩
instance {O : Oh} {i : Int} : NoDi (.d (.int i)) O := ⟨rfl⟩
instance {O : Oh} {s : Str} : NoDi (.d (.str s)) O := ⟨rfl⟩
instance {O : Oh} {l : List PyData} : NoDi (.d (.list l)) O := ⟨rfl⟩
instance {O : Oh} {l : List PyData} : NoDi (.d (.tuple l)) O := ⟨rfl⟩
instance {O : Oh} {l : PyData} : NoDi (.d (.dict [(.none, l)])) O := ⟨rfl⟩
instance {O : Oh} {ds : List PyData} : NoDi (.p ds) O := ⟨rfl⟩
instance {O : Oh} {j : Nat} {ws : List W} [g : Cl O j (.lst ws)] : NoDi (.c j) O := ⟨by unfold isDictW asDk asDt; dsimp only; rw [g.e]; rfl⟩
/-- a list, not of literal shape, is the answer -/
theorem sl_own {x : W} {O : Oh} {ws : List W} {ds : List PyData} {lo hi : Option Int} {R : DK} {j : Nat} [g : Cl O j (.lst ws)] [d : Dats ws ds] (h : R (.d (.list (cutL ds lo hi))) O) : dSl (.c j) lo hi O R := by
  have e : asL (.c j) O = some ws := by unfold asL; dsimp only; rw [g.e]
  unfold dSl
  dsimp only
  rw [e]
  dsimp only
  rw [d.e]
  exact h
instance {O : Oh} {ws : List W} {ds : List PyData} {lo hi : Option Int} {R : DK} {j : Nat} [g : Cl O j (.lst ws)] [d : Dats ws ds] : Go (dSl (.c j) lo hi O R) (R (.d (.list (cutL ds lo hi))) O) := ⟨sl_own (x := .c j)⟩
def kRevL (R : DK) : DK := fun x O => match asL x O with
  | some ws => (match datas ws with
    | some ds => R (.d (.list ds.reverse)) O
    | none => False)
  | none => False
instance {R : DK} {Γ : Gm} {O : Oh} {xe : DX} {w : DEx} : Go (dRevL w Γ O R xe) (w Γ O (kRevL R) xe) := ⟨fun h => h⟩
instance {R : DK} {O : Oh} {x : W} {ws : List W} {ds : List PyData} [a : AsL x O ws] [d : Dats ws ds] : Go (kRevL R x O) (R (.d (.list ds.reverse)) O) := ⟨fun h => by unfold kRevL; rw [a.e]; dsimp only; rw [d.e]; exact h⟩
/-! #### subscripts -/
theorem ix2_of {x : W} {O : Oh} {ws : List W} {i : Int} {w : W} {R : DK} [n : NoDi x O] [a : AsS x O ws] (hi : atI ws i = some w) (h : R w O) : dIx2 x (.d (.int i)) O R := by
  unfold dIx2
  rw [if_neg (by rw [n.e]; exact Bool.false_ne_true)]
  unfold dIx
  split
  · have := a.e; cases this
  · next e1 e2 =>
    cases e2
    rw [a.e]
    dsimp only
    rw [hi]
    exact h
  · next h1 _ => exact (h1 _ rfl).elim
theorem atI_nat {α : Type} {ws : List α} {m : Nat} {w : α} (h : ws[m]? = some w) : atI ws (m : Nat) = some w := by
  have hl := (List.getElem?_eq_some_iff.mp h).1
  unfold atI ixN
  simp [hl]
  exact (List.getElem?_eq_some_iff.mp h).2
/-! #### operators -/
instance {R : DK} {O : Oh} {i j : Int} {g : Int → Int → PyData} : Go (dI20 g (.d (.int i)) (.d (.int j)) O R) (R (.d (g i j)) O) := ⟨fun h => h⟩
instance {R : DK} {O : Oh} {i j : Int} {C : Int → Int → Prop} {g : Int → Int → PyData} : Go (dI2 C g (.d (.int i)) (.d (.int j)) O R) (C i j ∧ R (.d (g i j)) O) := ⟨fun h => h⟩
instance {R : DK} {O : Oh} {i j : Int} : Go (dAdd (.d (.int i)) (.d (.int j)) O R) (R (.d (.int (i + j))) O) := ⟨fun h => h⟩
instance {R : DK} {O : Oh} {i j : Int} : Go (dLt2 (.d (.int i)) (.d (.int j)) O R) (R (.d (.bool (decide (i < j)))) O) := ⟨fun h => h⟩
instance {R : DK} {O : Oh} {i j : Int} : Go (dGt2 (.d (.int i)) (.d (.int j)) O R) (R (.d (.bool (decide (j < i)))) O) := ⟨fun h => h⟩
theorem dcase {R : Bool → Oh → Prop} {O : Oh} {p : Prop} [i : Decidable p] (h1 : p → R true O) (h2 : ¬ p → R false O) : R (decide p) O := by
  by_cases z : p
  · rw [decide_eq_true z]; exact h1 z
  · rw [decide_eq_false z]; exact h2 z
instance {O : Oh} {R : DK} {i j : Int} : Go (dEq (.d (.int i)) (.d (.int j)) O R) (R (.d (.bool (decide (i = j)))) O) := ⟨fun h => ⟨rfl, rfl, by
  have e : PyData.eqv (.int i) (.int j) = decide (i = j) := by simp [PyData.eqv]; rfl
  rw [e]; exact h⟩⟩
instance {O : Oh} {R : DK} {i j : Int} : Go (dNe (.d (.int i)) (.d (.int j)) O R) (R (.d (.bool (decide (i ≠ j)))) O) := ⟨fun h => ⟨rfl, rfl, by
  rw [decide_not] at h
  have e : PyData.eqv (.int i) (.int j) = decide (i = j) := by simp [PyData.eqv]; rfl
  rw [e]; exact h⟩⟩
theorem eqv_str (a b : Str) : PyData.eqv (.str a) (.str b) = decide (a = b) := by
  unfold PyData.eqv
  by_cases z : a = b
  · subst z; simp
  · simp [z]
instance {O : Oh} {R : DK} {i j : Str} : Go (dEq (.d (.str i)) (.d (.str j)) O R) (R (.d (.bool (decide (i = j)))) O) := ⟨fun h => ⟨rfl, rfl, by
  rw [eqv_str]; exact h⟩⟩
instance {O : Oh} {R : DK} {i j : Str} : Go (dNe (.d (.str i)) (.d (.str j)) O R) (R (.d (.bool (decide (i ≠ j)))) O) := ⟨fun h => ⟨rfl, rfl, by
  rw [decide_not] at h
  rw [eqv_str]; exact h⟩⟩
instance {O : Oh} {R : DK} {i j : Int} : Go (dMax [.d (.int i), .d (.int j)] O R) (R (.d (.int (if j > i then j else i))) O) := ⟨fun h => h⟩
instance {O : Oh} {R : DK} {i j : Int} : Go (dMin [.d (.int i), .d (.int j)] O R) (R (.d (.int (if j < i then j else i))) O) := ⟨fun h => h⟩
instance {O : Oh} {R : DK} {i : Int} : Go (dAbs [.d (.int i)] O R) (R (.d (.int (if i < 0 then -i else i))) O) := ⟨fun h => h⟩
class NStr (x : W) : Prop where
  e : ∀ s, x ≠ .d (.str s)
instance {l : List PyData} : NStr (.d (.list l)) := ⟨fun s h => by cases h⟩
instance {l : List PyData} : NStr (.d (.tuple l)) := ⟨fun s h => by cases h⟩
instance {l : List (PyData × PyData)} : NStr (.d (.dict l)) := ⟨fun s h => by cases h⟩
instance {j : Nat} : NStr (.c j) := ⟨fun s h => by cases h⟩
theorem go_len {O : Oh} {R : DK} {x : W} {ws : List W} [n : NStr x] [a : AsS x O ws] (h : R (.d (.int (ws.length : Nat))) O) : dLen [x] O R := by
  unfold dLen
  split
  · next e => cases e; exact (n.e _ rfl).elim
  · next e => cases e; rw [a.e]; exact h
  · next h1 h2 => exact (h2 _ rfl).elim
instance {O : Oh} {R : DK} {x : W} {ws : List W} [n : NStr x] [a : AsS x O ws] : Go (dLen [x] O R) (R (.d (.int (ws.length : Nat))) O) := ⟨go_len⟩
theorem go_tupOf {O : Oh} {R : DK} {x : W} {ws : List W} {ds : List PyData} [a : AsL x O ws] [d : Dats ws ds] (h : R (.d (.tuple ds)) O) : dTupOf [x] O R := by
  unfold dTupOf
  split
  · next e => cases e; have := a.e; cases this
  · next e => cases e; rw [a.e]; dsimp only; rw [d.e]; exact h
  · next h1 h2 => exact (h2 _ rfl).elim
instance {O : Oh} {R : DK} {x : W} {ws : List W} {ds : List PyData} [a : AsL x O ws] [d : Dats ws ds] : Go (dTupOf [x] O R) (R (.d (.tuple ds)) O) := ⟨go_tupOf⟩
instance {O : Oh} {R : DK} {ds : List PyData} : Go (dTupOf [.d (.tuple ds)] O R) (R (.d (.tuple ds)) O) := ⟨fun h => h⟩
instance {O : Oh} {R : DK} {x : W} {ws : List W} {ds : List PyData} [n : NoDk x O] [a : AsS x O ws] [d : Dats ws ds] : Go (dListOf2 [x] O R) (R (.d (.list ds)) O) := ⟨fun h => by
  unfold dListOf2; dsimp only; rw [n.e]; dsimp only; unfold dListOf; dsimp only; rw [a.e]; dsimp only; rw [d.e]; exact h⟩
theorem go_listC {O O' : Oh} {R : DK} {x : W} {ws : List W} {j : Nat} [k : NoDk x O] [a : AsS x O ws] [n : Nw O (.lst ws) j O'] (h : R (.c j) O') : dListC2 [x] O R := by
  unfold dListC2; dsimp only; rw [k.e]; dsimp only; unfold dListC; dsimp only; rw [a.e]; dsimp only; rw [n.e.1, n.e.2]; exact h
instance {O O' : Oh} {R : DK} {x : W} {ws : List W} {j : Nat} [k : NoDk x O] [a : AsS x O ws] [n : Nw O (.lst ws) j O'] : Go (dListC2 [x] O R) (R (.c j) O') := ⟨go_listC⟩
/-! #### methods -/
def kBM2 (f : DM) (x : W) (R : DK) : List W → Oh → Prop := fun xs O => f x xs O R
def kBM1 (tw : W → Oh → Bool) (f : DM) (ws : DA) (Γ : Gm) (R : DK) (xe : DX) : DK := fun x O => tw x O = true ∧ ws Γ O (kBM2 f x R) xe
instance {R : DK} {Γ : Gm} {O : Oh} {xe : DX} {tw : W → Oh → Bool} {f : DM} {wo : DEx} {ws : DA} : Go (dBM tw f wo ws Γ O R xe) (wo Γ O (kBM1 tw f ws Γ R xe) xe) := ⟨fun h => h⟩
class Tw (tw : W → Oh → Bool) (x : W) (O : Oh) : Prop where
  e : tw x O = true
instance {O : Oh} {j : Nat} {ws : List W} [g : Cl O j (.lst ws)] : Tw isLstW (.c j) O := ⟨by unfold isLstW; dsimp only; rw [g.e]⟩
instance {O : Oh} {ds : List PyData} : Tw isLstW (.d (.list ds)) O := ⟨rfl⟩
instance {O : Oh} {s : Str} : Tw isStrW (.d (.str s)) O := ⟨rfl⟩
instance {O : Oh} {j : Nat} {ws : List (Key × W)} [g : Cl O j (.dic ws)] : Tw isDicW (.c j) O := ⟨by unfold isDicW; dsimp only; rw [g.e]⟩
instance {O : Oh} {j : Nat} {ws : List (List Key × W)} [g : Cl O j (.dct ws)] : Tw isDicW (.c j) O := ⟨by unfold isDicW; dsimp only; rw [g.e]⟩
instance {R : DK} {Γ : Gm} {O : Oh} {xe : DX} {tw : W → Oh → Bool} {f : DM} {ws : DA} {x : W} [t : Tw tw x O] : Go (kBM1 tw f ws Γ R xe x O) (ws Γ O (kBM2 f x R) xe) := ⟨fun h => ⟨t.e, h⟩⟩
instance {R : DK} {O : Oh} {f : DM} {x : W} {xs : List W} : Go (kBM2 f x R xs O) (f x xs O R) := ⟨fun h => h⟩
theorem go_append {O O' : Oh} {R : DK} {j : Nat} {y : W} {ws ws' : List W} [g : Cl O j (.lst ws)] (hz : ws.length < 1000000) (e : ws ++ [y] = ws') [s : St O j (.lst ws') O'] (h : R (.d .none) O') : dAppend (.c j) [y] O R := by
  unfold dAppend; dsimp only; rw [g.e]; dsimp only; rw [e, s.e]; exact ⟨hz, h⟩
def kTM2 (f : DM) (x : W) (R : DK) : List W → Oh → Prop := fun xs O => f x xs O R
def kTM1 (f : DM) (ws : DA) (Γ : Gm) (R : DK) (xe : DX) : DK := fun o O => match o with
  | .d (.tuple ds) => ws Γ O (kTM2 f (.d (.tuple ds)) R) xe
  | _ => False
instance {R : DK} {Γ : Gm} {O : Oh} {xe : DX} {f : DM} {wo : DEx} {ws : DA} : Go (dTM f wo ws Γ O R xe) (wo Γ O (kTM1 f ws Γ R xe) xe) := ⟨fun h => h⟩
instance {R : DK} {Γ : Gm} {O : Oh} {xe : DX} {f : DM} {ws : DA} {ds : List PyData} : Go (kTM1 f ws Γ R xe (.d (.tuple ds)) O) (ws Γ O (kTM2 f (.d (.tuple ds)) R) xe) := ⟨fun h => h⟩
instance {R : DK} {O : Oh} {f : DM} {x : W} {xs : List W} : Go (kTM2 f x R xs O) (f x xs O R) := ⟨fun h => h⟩
/-! #### .. is None, -set -/
instance {O : Oh} {R : DK} {neg : Bool} {x : W} : Go (dIs2 neg x (.d .none) O R) (R (.d (.bool (if neg then !isNone x else isNone x))) O) := ⟨fun h => h⟩
instance {O : Oh} {R : DK} {neg a b : Bool} : Go (dIs2 neg (.d (.bool a)) (.d (.bool b)) O R) (R (.d (.bool (if neg then !decide (a = b) else decide (a = b)))) O) := ⟨fun h => h⟩
def kLenSet (R : DK) : DK := fun x O => match asL x O with
  | some ws => (match datas ws with
    | some ds => (match strsD ds with
      | some ys => ys.length ≤ 1000 ∧ R (.d (.int ((met ys).length : Nat))) O
      | none => False)
    | none => False)
  | none => False
instance {R : DK} {Γ : Gm} {O : Oh} {xe : DX} {w : DEx} : Go (dLenSet w Γ O R xe) (w Γ O (kLenSet R) xe) := ⟨fun h => h⟩
/-! #### chains -/
def kCh4 (f : D2) (y : W) (R : DK) : DK := fun w O => f y w O R
def kCh3 (f : D2) (wc : DEx) (y : W) (Γ : Gm) (R : DK) (xe : DX) : DK := fun z O => match z with
  | .d (.bool t) => if t = true then wc Γ O (kCh4 f y R) xe else R (.d (.bool false)) O
  | _ => False
def kCh2 (f f' : D2) (wc : DEx) (x : W) (Γ : Gm) (R : DK) (xe : DX) : DK := fun y O => f x y O (kCh3 f' wc y Γ R xe)
def kCh1 (f f' : D2) (wb wc : DEx) (Γ : Gm) (R : DK) (xe : DX) : DK := fun x O => wb Γ O (kCh2 f f' wc x Γ R xe) xe
instance {R : DK} {Γ : Gm} {O : Oh} {xe : DX} {f f' : D2} {wa wb wc : DEx} : Go (dChain f f' wa wb wc Γ O R xe) (wa Γ O (kCh1 f f' wb wc Γ R xe) xe) := ⟨fun h => h⟩
instance {R : DK} {Γ : Gm} {O : Oh} {xe : DX} {f f' : D2} {wb wc : DEx} {x : W} : Go (kCh1 f f' wb wc Γ R xe x O) (wb Γ O (kCh2 f f' wc x Γ R xe) xe) := ⟨fun h => h⟩
instance {R : DK} {Γ : Gm} {O : Oh} {xe : DX} {f f' : D2} {wc : DEx} {x y : W} : Go (kCh2 f f' wc x Γ R xe y O) (f x y O (kCh3 f' wc y Γ R xe)) := ⟨fun h => h⟩
instance {R : DK} {Γ : Gm} {O : Oh} {xe : DX} {f : D2} {wc : DEx} {y : W} : Go (kCh3 f wc y Γ R xe (.d (.bool true)) O) (wc Γ O (kCh4 f y R) xe) := ⟨fun h => by unfold kCh3; dsimp only; rw [if_pos rfl]; exact h⟩
instance {R : DK} {Γ : Gm} {O : Oh} {xe : DX} {f : D2} {wc : DEx} {y : W} : Go (kCh3 f wc y Γ R xe (.d (.bool false)) O) (R (.d (.bool false)) O) := ⟨fun h => by unfold kCh3; dsimp only; rw [if_neg Bool.false_ne_true]; exact h⟩
instance {R : DK} {O : Oh} {f : D2} {y w : W} : Go (kCh4 f y R w O) (f y w O R) := ⟨fun h => h⟩
/-! #### walks -/
def kSeqI (S : List W → (Oh → Prop) → Oh → Prop) : DK := fun r O1 => match r with
  | .d (.list ds) => S (ds.map W.d) (fun _ => True) O1
  | .d (.tuple ds) => S (ds.map W.d) (fun _ => True) O1
  | .c k => match O1[k]? with
    | some (.lst ws) => S ws (fun O => O[k]? = some (.lst ws)) O1
    | _ => False
  | _ => False
instance {S : List W → (Oh → Prop) → Oh → Prop} {Γ : Gm} {O : Oh} {xe : DX} {w : DEx} : Go (dSeqI w Γ O S xe) (w Γ O (kSeqI S) xe) := ⟨fun h => h⟩
instance {S : List W → (Oh → Prop) → Oh → Prop} {O : Oh} {ds : List PyData} : Go (kSeqI S (.d (.list ds)) O) (S (ds.map W.d) (fun _ => True) O) := ⟨fun h => h⟩
instance {S : List W → (Oh → Prop) → Oh → Prop} {O : Oh} {ds : List PyData} : Go (kSeqI S (.d (.tuple ds)) O) (S (ds.map W.d) (fun _ => True) O) := ⟨fun h => h⟩
instance {S : List W → (Oh → Prop) → Oh → Prop} {O : Oh} {k : Nat} {ws : List W} [g : Cl O k (.lst ws)] : Go (kSeqI S (.c k) O) (S ws (fun O => O[k]? = some (.lst ws)) O) := ⟨fun h => by unfold kSeqI; dsimp only; rw [g.e]; exact h⟩
def kRng (S : List W → (Oh → Prop) → Oh → Prop) : List W → Oh → Prop := fun vs O1 => match vs with
  | [.d (.int j)] => j < 4611686018427387904 ∧ -4611686018427387904 ≤ j ∧ S (rgW 0 j.toNat) (fun _ => True) O1
  | _ => False
instance {S : List W → (Oh → Prop) → Oh → Prop} {Γ : Gm} {O : Oh} {xe : DX} {ws : DA} : Go (dRng1 ws Γ O S xe) (ws Γ O (kRng S) xe) := ⟨fun h => h⟩
theorem go_rng {S : List W → (Oh → Prop) → Oh → Prop} {O : Oh} {n : Nat} (hn : n < 4611686018427387904) (h : S (rgW 0 n) (fun _ => True) O) : kRng S [.d (.int (n : Nat))] O := ⟨by omega, by omega, by rw [Int.toNat_natCast]; exact h⟩
def kEnum (S : List W → (Oh → Prop) → Oh → Prop) : List W → Oh → Prop := fun xs O1 => match xs with
  | [x] => (match asFz x with
    | some ds => S (enumW 0 ds) (fun _ => True) O1
    | none => False)
  | _ => False
instance {S : List W → (Oh → Prop) → Oh → Prop} {Γ : Gm} {O : Oh} {xe : DX} {ws : DA} : Go (dEnum ws Γ O S xe) (ws Γ O (kEnum S) xe) := ⟨fun h => h⟩
instance {S : List W → (Oh → Prop) → Oh → Prop} {O : Oh} {ds : List PyData} : Go (kEnum S [.d (.tuple ds)] O) (S (enumW 0 ds) (fun _ => True) O) := ⟨fun h => h⟩
instance {S : List W → (Oh → Prop) → Oh → Prop} {O : Oh} {ds : List PyData} : Go (kEnum S [.d (.list ds)] O) (S (enumW 0 ds) (fun _ => True) O) := ⟨fun h => h⟩
def kFor (t : Tg) (body : DSt) (D : DEnds) (xe : DX) (Γ : Gm) : List W → (Oh → Prop) → Oh → Prop := fun xs ok O1 => forGo ok t body D xe xs Γ O1
instance {f b c : Gm → Oh → Prop} {r : DK} {Γ : Gm} {O : Oh} {xe : DX} {w : DI} {t : Tg} {body : DSt} : Go (dFor w t body ⟨f, r, b, c⟩ xe Γ O) (w Γ O (kFor t body ⟨f, r, b, c⟩ xe Γ) xe) := ⟨fun h => h⟩
instance {Γ : Gm} {O : Oh} {xe : DX} {D : DEnds} {t : Tg} {body : DSt} {xs : List W} {ok : Oh → Prop} : Go (kFor t body D xe Γ xs ok O) (forGo ok t body D xe xs Γ O) := ⟨fun h => h⟩
def kLc (t : Tg) (tt : DT) (we : DEx) (Γ : Gm) (R : DK) : List W → (Oh → Prop) → Oh → Prop := fun xs ok O1 => lcGo ok t tt we Γ (fun acc O2 => R (.d (.list acc)) O2) xs [] O1
class Wipe (Γ : Gm) (own : List Nat) (Γ' : outParam Gm) : Prop where
  e : wipeG Γ own = Γ'
instance {Γ : Gm} : Wipe Γ [] Γ := ⟨rfl⟩
instance {Γ Γ1 Γ2 : Gm} {v : Nat} {vs : List Nat} [w : Wipe Γ vs Γ1] [p : Put Γ1 v none Γ2] : Wipe Γ (v :: vs) Γ2 := ⟨by show (wipeG Γ vs).set v none = _; rw [w.e, p.e]⟩
instance {R : DK} {Γ Γ' : Gm} {O : Oh} {xe : DX} {w : DI} {t : Tg} {tt : DT} {we : DEx} {own : List Nat} [z : Wipe Γ own Γ'] : Go (dLc w t tt we own Γ O R xe) (w Γ O (kLc t tt we Γ' R) xe) := ⟨fun h => by unfold dLc; rw [z.e]; exact h⟩
instance {R : DK} {Γ : Gm} {O : Oh} {t : Tg} {tt : DT} {we : DEx} {xs : List W} {ok : Oh → Prop} : Go (kLc t tt we Γ R xs ok O) (lcGo ok t tt we Γ (fun acc O2 => R (.d (.list acc)) O2) xs [] O) := ⟨fun h => h⟩
/-- a walk, by what stays so -/
theorem for_rule {f b c : Gm → Oh → Prop} {r : DK} {ok : Oh → Prop} {t : Tg} {body : DSt} {xe : DX} {xs : List W} {Γ : Gm} {O : Oh} (I : List W → Gm → Oh → Prop) (h : I xs Γ O)
    (h0 : ∀ Γ O, I [] Γ O → ok O ∧ f Γ O)
    (h1 : ∀ x q Γ O, I (x :: q) Γ O → ok O ∧ ∀ C : Gm → Oh → Prop, (∀ Γ' O', I q Γ' O' → C Γ' O') → t.put x Γ fun Γ1 => body ⟨C, r, f, C⟩ xe Γ1 O) : forGo ok t body ⟨f, r, b, c⟩ xe xs Γ O := by
  induction xs generalizing Γ O with
  | nil => exact h0 _ _ h
  | cons x q ih =>
    obtain ⟨a, k⟩ := h1 _ _ _ _ h
    exact ⟨a, k _ fun Γ' O' i => ih i⟩
def kLcT (we : DEx) (Γ : Gm) (C : DK) (N : Oh → Prop) : Bool → Oh → Prop := fun b O => if b = true then we Γ O C X0 else N O
instance {we : DEx} {Γ : Gm} {C : DK} {N : Oh → Prop} {O : Oh} : Go (kLcT we Γ C N true O) (we Γ O C X0) := ⟨fun h => by unfold kLcT; rw [if_pos rfl]; exact h⟩
instance {we : DEx} {Γ : Gm} {C : DK} {N : Oh → Prop} {O : Oh} : Go (kLcT we Γ C N false O) (N O) := ⟨fun h => by unfold kLcT; rw [if_neg Bool.false_ne_true]; exact h⟩
/-- a list that is made, by what stays so -/
theorem lc_rule {ok : Oh → Prop} {t : Tg} {tt : DT} {we : DEx} {Γ : Gm} {fin : List PyData → Oh → Prop} {xs : List W} {acc : List PyData} {O : Oh} (I : List W → List PyData → Oh → Prop) (h : I xs acc O)
    (h0 : ∀ acc O, I [] acc O → ok O ∧ fin acc O)
    (h1 : ∀ x q acc O, I (x :: q) acc O → ok O ∧ ∀ (C : DK) (N : Oh → Prop), (∀ z O', acc.length < 1000000 → I q (acc ++ [z]) O' → C (.d z) O') → (∀ O', I q acc O' → N O') →
      t.put x Γ fun Γ1 => tt Γ1 O (kLcT we Γ1 C N) X0) : lcGo ok t tt we Γ fin xs acc O := by
  induction xs generalizing acc O with
  | nil => exact h0 _ _ h
  | cons x q ih =>
    obtain ⟨a, k⟩ := h1 _ _ _ _ h
    refine ⟨a, k _ _ (fun z O' hz i => ?_) (fun O' i => ih i)⟩
    exact ⟨hz, ih i⟩
def kWh (body : DSt) (D : DEnds) (f : Gm → Oh → Prop) (xe : DX) (Γ : Gm) : Bool → Oh → Prop := fun b O => if b = true then body D xe Γ O else f Γ O
instance {body : DSt} {D : DEnds} {f : Gm → Oh → Prop} {xe : DX} {Γ : Gm} {O : Oh} : Go (kWh body D f xe Γ true O) (body D xe Γ O) := ⟨fun h => by unfold kWh; rw [if_pos rfl]; exact h⟩
instance {body : DSt} {D : DEnds} {f : Gm → Oh → Prop} {xe : DX} {Γ : Gm} {O : Oh} : Go (kWh body D f xe Γ false O) (f Γ O) := ⟨fun h => by unfold kWh; rw [if_neg Bool.false_ne_true]; exact h⟩
/-! #### refusals -/
def kRaiseF (nm : Str) (fs : List Str) (xe : DX) (Γ : Gm) : List W → Oh → Prop := fun vs O1 => match datas vs with
  | some ds => ds.length = fs.length ∧ xe ⟨nm, (fs.zip ds).reverse⟩ Γ O1
  | none => False
instance {Γ : Gm} {O : Oh} {xe : DX} {D : DEnds} {nm : Str} {fs : List Str} {ws : DA} : Go (dRaiseF nm fs ws D xe Γ O) (ws Γ O (kRaiseF nm fs xe Γ) xe) := ⟨fun h => h⟩
instance {Γ : Gm} {O : Oh} {xe : DX} {D : DEnds} {nm : Str} : Go (dRaise0 nm D xe Γ O) (xe ⟨nm, []⟩ Γ O) := ⟨fun h => h⟩
def kTry (subs : List (Str × Bool)) (suite : DSt) (D : DEnds) (xe : DX) : DX := fun ex Γ' O' => match subs.lookup ex.cls with
  | some true => suite D X0 Γ' O'
  | some false => xe ex Γ' O'
  | none => False
instance {Γ : Gm} {O : Oh} {xe : DX} {D : DEnds} {subs : List (Str × Bool)} {body suite : DSt} : Go (dTry subs body suite D xe Γ O) (body D (kTry subs suite D xe) Γ O) := ⟨fun h => h⟩
def kTryAs (subs : List (Str × Bool)) (i : Nat) (suite : Addr → Option Addr → DSt) (D : DEnds) (xe : DX) : DX := fun ex Γ' O' => match subs.lookup ex.cls with
  | some true => ∀ a d, suite a d { D with nx := fun Γ1 O1 => D.nx (Γ1.set i none) O1, bk := fun Γ1 O1 => D.bk (Γ1.set i none) O1, ct := fun Γ1 O1 => D.ct (Γ1.set i none) O1 } X0 (Γ'.set i (some (.o a d ex.fs))) O'
  | some false => xe ex Γ' O'
  | none => False
instance {Γ : Gm} {O : Oh} {xe : DX} {D : DEnds} {subs : List (Str × Bool)} {i : Nat} {body : DSt} {suite : Addr → Option Addr → DSt} : Go (dTryAs subs i body suite D xe Γ O) (body D (kTryAs subs i suite D xe) Γ O) := ⟨fun h => h⟩
def kXf (a : Addr) (d : Option Addr) (f : Str) (R : DK) : DK := fun x O1 => match x with
  | .o b d' fs => b = a ∧ d' = d ∧ (match fs.lookup f with
    | some y => R (.d y) O1
    | none => False)
  | _ => False
instance {R : DK} {Γ : Gm} {O : Oh} {xe : DX} {a : Addr} {d : Option Addr} {f : Str} {w : DEx} : Go (dXf a d f w Γ O R xe) (w Γ O (kXf a d f R) xe) := ⟨fun h => h⟩
def kSet3 (o v : W) (f : Gm → Oh → Prop) (Γ : Gm) : DK := fun i O => dPutIx o i v O fun O4 => f Γ O4
def kSet2 (wi : DEx) (v : W) (f : Gm → Oh → Prop) (Γ : Gm) (xe : DX) : DK := fun o O => wi Γ O (kSet3 o v f Γ) xe
def kSet1 (wo wi : DEx) (f : Gm → Oh → Prop) (Γ : Gm) (xe : DX) : DK := fun v O => wo Γ O (kSet2 wi v f Γ xe) xe
instance {f b c : Gm → Oh → Prop} {r : DK} {Γ : Gm} {O : Oh} {xe : DX} {wo wi we : DEx} : Go (dSetI wo wi we ⟨f, r, b, c⟩ xe Γ O) (we Γ O (kSet1 wo wi f Γ xe) xe) := ⟨fun h => h⟩
instance {f : Gm → Oh → Prop} {Γ : Gm} {O : Oh} {xe : DX} {wo wi : DEx} {v : W} : Go (kSet1 wo wi f Γ xe v O) (wo Γ O (kSet2 wi v f Γ xe) xe) := ⟨fun h => h⟩
instance {f : Gm → Oh → Prop} {Γ : Gm} {O : Oh} {xe : DX} {wi : DEx} {v o : W} : Go (kSet2 wi v f Γ xe o O) (wi Γ O (kSet3 o v f Γ) xe) := ⟨fun h => h⟩
instance {f : Gm → Oh → Prop} {Γ : Gm} {O : Oh} {o v i : W} : Go (kSet3 o v f Γ i O) (dPutIx o i v O fun O4 => f Γ O4) := ⟨fun h => h⟩
theorem putix_lst {O : Oh} {j m : Nat} {n : Int} {ws : List W} {v : W} {k : Oh → Prop} [g : Cl O j (.lst ws)] (hi : ixN ws.length n = some m) (h : k (O.set j (.lst (ws.set m v)))) : dPutIx (.c j) (.d (.int n)) v O k := by
  unfold dPutIx; dsimp only; rw [g.e]; dsimp only; rw [hi]; exact h
/-! #### in -/
theorem in_of {neg : Bool} {x y : W} {d e : PyData} {ds : List PyData} {O : Oh} {R : DK} (n : NoDi y O) (hs : ∀ s, y ≠ .d (.str s)) (hx : asD x O = some d) (hy : asD y O = some e) (he : seqD e = some ds) (s1 : shp 40 d = true) (s2 : shp 40 e = true)
    (h : R (.d (.bool (if neg then !(ds.any fun z => PyData.eqv z d) else ds.any fun z => PyData.eqv z d))) O) : dIn2 neg x y O R := by
  unfold dIn2
  rw [if_neg (by rw [n.e]; exact Bool.false_ne_true)]
  split
  · next s => exact (hs _ rfl).elim
  · rw [hx, hy]; dsimp only; rw [he]; exact ⟨s1, s2, h⟩
end Dl
namespace Dl
open PySem PySem.Spec PyProof.Rows L2
def w__law_pot : DFn := dDefC 3 2 (
  (dSeq (dAsg (dC (.int 0)) (.nm 2))
  (dSeq (dIf (dB (dOp dLt2 (dVar 1) (dCB dLen (dCons (dVar 0) dNil))))
   (dAsg (dOp dIx2 (dVar 0) (dVar 1)) (.nm 2))
   dNext)
  (dRet (dLstC (dCons (dCB dMax (dCons (dC (.int 0)) (dCons (dOp dSub (dCB dAbs (dCons (dVar 2) dNil)) (dOp dPow (dC (.int 10)) (dC (.int 18)))) dNil))) (dCons (dOp dAdd (dOp dAdd (dOp dMod (dCB dAbs (dCons (dVar 2) dNil)) (dC (.int 2147483587))) (dOp dMul (dC (.int 101)) (dVar 1))) (dC (.int 3))) dNil)))))))
def w__law_digit : DFn := dDef 3 2 (
  (dSeq (dIf (dB (dOp dGt2 (dOp dIx2 (dVar 0) (dC (.int 0))) (dC (.int 0))))
   (dSeq (dAsg (dOp dMod (dOp dIx2 (dVar 0) (dC (.int 0))) (dVar 1)) (.nm 2))
   (dSeq (dSetI (dVar 0) (dC (.int 0)) (dOp dDiv (dOp dIx2 (dVar 0) (dC (.int 0))) (dVar 1)))
   (dRet (dVar 2))))
   dNext)
  (dSeq (dSetI (dVar 0) (dC (.int 1)) (dOp dMod (dOp dAdd (dOp dMul (dOp dIx2 (dVar 0) (dC (.int 1))) (dC (.int 39373))) (dC (.int 20011))) (dC (.int 2147483647))))
  (dRet (dOp dMod (dOp dDiv (dOp dMod (dOp dMul (dOp dIx2 (dVar 0) (dC (.int 1))) (dOp dIx2 (dVar 0) (dC (.int 1)))) (dC (.int 2147483563))) (dC (.int 11))) (dVar 1))))))
def w__law_names : DFn := dDef 10 2 (
  (dSeq (dAsg (dC (.str "abcdefghijklmnopqrstuvwxyz")) (.nm 2))
  (dSeq (dAsg (dLstC dNil) (.nm 3))
  (dSeq (dFor (dRng1 (dCons (dVar 1) dNil)) (.nm 4)
   (dSeq (dAsg (dOp dAdd (dC (.int 1)) (dCall0 w__law_digit (dCons (dVar 0) (dCons (dOp dIx2 (dLst (dCons (dC (.int 1)) (dCons (dC (.int 2)) (dCons (dC (.int 8)) dNil)))) (dCall0 w__law_digit (dCons (dVar 0) (dCons (dC (.int 3)) dNil)))) dNil)))) (.nm 5))
   (dSeq (dAsg (dJoin (dC (.str "")) (dLc (dRng1 (dCons (dVar 5) dNil)) (.nm 8) dYes (dOp dIx2 (dVar 2) (dCall0 w__law_digit (dCons (dVar 0) (dCons (dC (.int 26)) dNil)))) [8])) (.nm 6))
   (dSeq (dIf (dB (dOp (dIn2 false) (dVar 6) (dVar 3)))
    (dSeq (dAsg (dLc (dRng1 (dCons (dOp dAdd (dVar 1) (dC (.int 1))) dNil)) (.nm 8) dYes (dOp dAdd (dOp dAdd (dSlice (dVar 6) dO0 (dO1 (dC (.int 6)))) (dOp dIx2 (dVar 2) (dVar 8))) (dC (.str "q"))) [8]) (.nm 7))
    (dAsg (dOp dIx2 (dLc (dSeqI (dVar 7)) (.nm 9) (dB (dOp (dIn2 true) (dVar 9) (dVar 3))) (dVar 9) [9]) (dC (.int 0))) (.nm 6)))
    dNext)
   (dDrop (dBM isLstW dAppend (dVar 3) (dCons (dVar 6) dNil)))))))
  (dRet (dVar 3))))))
end Dl
/-! ### rows of texts -/
namespace Dl
open PySem PySem.Spec PyProof.Rows L2
abbrev sD (xs : List Str) : List PyData := xs.map PyData.str
abbrev tS (xs : List Str) : PyData := .tuple (sD xs)
abbrev lS (xs : List Str) : PyData := .list (sD xs)
theorem eqvAll_map {α : Type} [DecidableEq α] {en : α → PyData} (h : ∀ a b, PyData.eqv (en a) (en b) = decide (a = b)) (xs ys : List α) : PyData.eqvAll (xs.map en) (ys.map en) = decide (xs = ys) := by
  induction xs generalizing ys with
  | nil => cases ys <;> simp [PyData.eqvAll]
  | cons x r ih =>
    cases ys with
    | nil => simp [PyData.eqvAll]
    | cons y t =>
      simp only [List.map_cons, PyData.eqvAll, h, ih]
      by_cases a : x = y <;> by_cases b : r = t <;> simp [a, b]
theorem eqv_lmap {α : Type} [DecidableEq α] {en : α → PyData} (h : ∀ a b, PyData.eqv (en a) (en b) = decide (a = b)) (xs ys : List α) : PyData.eqv (.list (xs.map en)) (.list (ys.map en)) = decide (xs = ys) := by
  rw [← eqvAll_map h]; simp only [PyData.eqv]
theorem eqv_lS (xs ys : List Str) : PyData.eqv (lS xs) (lS ys) = decide (xs = ys) := eqv_lmap eqv_str xs ys
theorem shp_sD (n : Nat) (xs : List Str) : (sD xs).all (shp n) = true := by
  rw [List.all_eq_true]
  intro d hd
  obtain ⟨s, _, rfl⟩ := List.mem_map.mp hd
  cases n <;> rfl
theorem shp_lS (n : Nat) (xs : List Str) : shp (n + 1) (lS xs) = true := shp_sD n xs
theorem shp_tS (n : Nat) (xs : List Str) : shp (n + 1) (tS xs) = true := shp_sD n xs
theorem any_sD (xs : List Str) (s : Str) : ((sD xs).any fun z => PyData.eqv z (.str s)) = decide (s ∈ xs) := by
  rw [List.any_map]
  induction xs with
  | nil => simp
  | cons x r ih =>
    rw [List.any_cons, ih]
    simp only [Function.comp, eqv_str]
    by_cases a : x = s
    · subst a; simp
    · have : ¬ s = x := fun h => a h.symm
      simp [a, this]
theorem datas_sD (xs : List Str) : datas ((sD xs).map W.d) = some (sD xs) := datas_map _
/-- a list of texts, kept or not; a list or a tuple of texts -/
class LstS (x : W) (O : Oh) (xs : outParam (List Str)) : Prop where
  e : asD x O = some (lS xs)
instance {O : Oh} {xs : List Str} : LstS (.d (.list (xs.map PyData.str))) O xs := ⟨rfl⟩
instance (priority := high) {O : Oh} : LstS (.d (.list [])) O [] := ⟨rfl⟩
theorem asD_cell {O : Oh} {j : Nat} {ws : List W} {ds : List PyData} (h : O[j]? = some (.lst ws)) (d : datas ws = some ds) : asD (.c j) O = some (.list ds) := by
  unfold asD; dsimp only; rw [h]; dsimp only; rw [d]
instance {O : Oh} {j : Nat} {xs : List Str} [g : Cl O j (.lst ((xs.map PyData.str).map W.d))] : LstS (.c j) O xs := ⟨asD_cell g.e (datas_sD xs)⟩
instance (priority := high) {O : Oh} {j : Nat} [g : Cl O j (.lst [])] : LstS (.c j) O [] := ⟨asD_cell g.e rfl⟩
class SeqS (x : W) (O : Oh) (xs : outParam (List Str)) : Prop where
  nd : isDictW x O = false
  ns : ∀ s, x ≠ .d (.str s)
  e : ∃ d, asD x O = some d ∧ seqD d = some (sD xs) ∧ shp 40 d = true
instance {O : Oh} {xs : List Str} : SeqS (.d (.list (xs.map PyData.str))) O xs := ⟨rfl, (fun s h => by cases h), _, rfl, rfl, shp_lS 39 xs⟩
instance {O : Oh} {xs : List Str} : SeqS (.d (.tuple (xs.map PyData.str))) O xs := ⟨rfl, (fun s h => by cases h), _, rfl, rfl, shp_tS 39 xs⟩
instance {O : Oh} {j : Nat} {xs : List Str} [g : Cl O j (.lst ((xs.map PyData.str).map W.d))] : SeqS (.c j) O xs := ⟨(inferInstance : NoDi (.c j) O).e, (fun s h => by cases h), _, asD_cell g.e (datas_sD xs), rfl, shp_lS 39 xs⟩
theorem asD_app {x : W} {O L : Oh} {d : PyData} (h : asD x O = some d) : asD x (O ++ L) = some d := by
  cases x with
  | c j =>
    unfold asD at h ⊢
    dsimp only at h ⊢
    split at h
    · next ws e =>
      rw [List.getElem?_append_left (List.getElem?_eq_some_iff.mp e).1, e]
      exact h
    · cases h
  | _ => exact h
theorem isDict_app {x : W} {O L : Oh} {d : PyData} (h : asD x O = some d) (e : isDictW x O = false) : isDictW x (O ++ L) = false := by
  cases x with
  | c j =>
    unfold asD at h
    dsimp only at h
    split at h
    · next ws e =>
      unfold isDictW asDk asDt
      dsimp only
      rw [List.getElem?_append_left (List.getElem?_eq_some_iff.mp e).1, e]
      rfl
    · cases h
  | d y => cases y <;> exact e
  | _ => exact e
instance (priority := low) {x : W} {O L : Oh} {xs : List Str} [q : SeqS x O xs] : SeqS x (O ++ L) xs := by
  obtain ⟨d, h1, h2, h3⟩ := q.e
  exact ⟨isDict_app h1 q.nd, q.ns, d, asD_app h1, h2, h3⟩
instance (priority := low) {x : W} {O L : Oh} {xs : List Str} [q : LstS x O xs] : LstS x (O ++ L) xs := ⟨asD_app q.e⟩
theorem go_inS {neg : Bool} {s : Str} {y : W} {xs : List Str} {O : Oh} {R : DK} [q : SeqS y O xs] (h : R (.d (.bool (if neg then !decide (s ∈ xs) else decide (s ∈ xs)))) O) : dIn2 neg (.d (.str s)) y O R := by
  obtain ⟨d, h1, h2, h3⟩ := q.e
  refine in_of ⟨q.nd⟩ q.ns rfl h1 h2 rfl h3 ?_
  rw [any_sD]
  exact h
instance {s : Str} {y : W} {xs : List Str} {O : Oh} {R : DK} [q : SeqS y O xs] : Go (dIn2 false (.d (.str s)) y O R) (R (.d (.bool (decide (s ∈ xs)))) O) := ⟨fun h => go_inS h⟩
instance {s : Str} {y : W} {xs : List Str} {O : Oh} {R : DK} [q : SeqS y O xs] : Go (dIn2 true (.d (.str s)) y O R) (R (.d (.bool (decide (s ∉ xs)))) O) := ⟨fun h => go_inS (by rw [if_pos rfl, ← decide_not]; exact h)⟩
theorem go_eqS {x y : W} {xs ys : List Str} {O : Oh} {R : DK} [a : LstS x O xs] [b : LstS y O ys] (h : R (.d (.bool (decide (xs = ys)))) O) : dEq x y O R := by
  unfold dEq; rw [a.e, b.e]; dsimp only; rw [eqv_lS]; exact ⟨shp_lS 39 _, shp_lS 39 _, h⟩
theorem go_neS {x y : W} {xs ys : List Str} {O : Oh} {R : DK} [a : LstS x O xs] [b : LstS y O ys] (h : R (.d (.bool (!decide (xs = ys)))) O) : dNe x y O R := by
  unfold dNe; rw [a.e, b.e]; dsimp only; rw [eqv_lS]; exact ⟨shp_lS 39 _, shp_lS 39 _, h⟩
instance {x y : W} {xs ys : List Str} {O : Oh} {R : DK} [a : LstS x O xs] [b : LstS y O ys] : Go (dEq x y O R) (R (.d (.bool (decide (xs = ys)))) O) := ⟨go_eqS⟩
instance {x y : W} {xs ys : List Str} {O : Oh} {R : DK} [a : LstS x O xs] [b : LstS y O ys] : Go (dNe x y O R) (R (.d (.bool (decide (xs ≠ ys)))) O) := ⟨fun h => go_neS (by rw [← decide_not]; exact h)⟩
/-! #### slices -/
/-! #### places -/
class Ix (ds : List PyData) (i : Int) (d : outParam PyData) : Prop where
  e : atI (ds.map W.d) i = some (.d d)
theorem atI_map {ds : List PyData} {m : Nat} {d : PyData} (h : ds[m]? = some d) : atI (ds.map W.d) (m : Nat) = some (.d d) := atI_nat (by rw [List.getElem?_map, h]; rfl)
instance {a : PyData} {l : List PyData} : Ix (a :: l) 0 a := ⟨atI_map (m := 0) rfl⟩
instance {a b : PyData} {l : List PyData} : Ix (a :: b :: l) 1 b := ⟨atI_map (m := 1) rfl⟩
instance {a b c : PyData} {l : List PyData} : Ix (a :: b :: c :: l) 2 c := ⟨atI_map (m := 2) rfl⟩
instance {α : Type} {en : α → PyData} {a : α} {l : List α} : Ix ((a :: l).map en) 0 (en a) := ⟨atI_map (m := 0) rfl⟩
class Fz (x : W) (O : Oh) (ds : outParam (List PyData)) : Prop where
  nd : isDictW x O = false
  e : asS x O = some (ds.map W.d)
instance {O : Oh} {ds : List PyData} : Fz (.d (.list ds)) O ds := ⟨rfl, rfl⟩
instance {O : Oh} {ds : List PyData} : Fz (.d (.tuple ds)) O ds := ⟨rfl, rfl⟩
instance {O : Oh} {ds : List PyData} : Fz (.p ds) O ds := ⟨rfl, rfl⟩
instance {O : Oh} {j : Nat} {ds : List PyData} [g : Cl O j (.lst (ds.map W.d))] : Fz (.c j) O ds := ⟨(inferInstance : NoDi (.c j) O).e, by unfold asS; dsimp only; rw [g.e]⟩
theorem go_ix {x : W} {O : Oh} {ds : List PyData} {i : Int} {d : PyData} {R : DK} [f : Fz x O ds] (hi : atI (ds.map W.d) i = some (.d d)) (h : R (.d d) O) : dIx2 x (.d (.int i)) O R := by
  haveI : NoDi x O := ⟨f.nd⟩
  haveI : AsS x O (ds.map W.d) := ⟨f.e⟩
  exact ix2_of hi h
instance {x : W} {O : Oh} {ds : List PyData} {i : Int} {d : PyData} {R : DK} [f : Fz x O ds] [g : Ix ds i d] : Go (dIx2 x (.d (.int i)) O R) (R (.d d) O) := ⟨go_ix g.e⟩
/-! #### walks along what is written as a list -/
/-- range(..) -/
theorem for_rng {f b c : Gm → Oh → Prop} {r : DK} {t : Tg} {body : DSt} {xe : DX} {n : Nat} {Γ : Gm} {O : Oh} (I : Nat → Gm → Oh → Prop) (h : I 0 Γ O)
    (h0 : ∀ Γ O, I n Γ O → f Γ O)
    (h1 : ∀ k Γ O, k < n → I k Γ O → ∀ C : Gm → Oh → Prop, (∀ Γ' O', I (k + 1) Γ' O' → C Γ' O') → t.put (.d (.int (k : Nat))) Γ fun Γ1 => body ⟨C, r, f, C⟩ xe Γ1 O) : forGo (fun _ => True) t body ⟨f, r, b, c⟩ xe (rgW 0 n) Γ O := by
  refine for_rule (fun q Γ O => ∃ k m : Nat, k + m = n ∧ q = rgW (k : Nat) m ∧ I k Γ O) ⟨0, n, by omega, rfl, h⟩ ?_ ?_
  · rintro Γ O ⟨k, m, hk, e, i⟩
    cases m with
    | zero => have : k = n := by omega
              subst this; exact ⟨trivial, h0 _ _ i⟩
    | succ m => cases e
  · rintro x q Γ O ⟨k, m, hk, e, i⟩
    cases m with
    | zero => cases e
    | succ m =>
      injection e with e1 e2
      subst e1 e2
      exact ⟨trivial, fun C hC => h1 _ _ _ (by omega) i C fun Γ' O' i' => hC _ _ ⟨k + 1, m, by omega, by simp, i'⟩⟩
/-- a list made of each element by itself -/
theorem lc_map {α : Type} (en : α → W) {i : Nat} {tt : DT} {we : DEx} {Γ : Gm} {fin : List PyData → Oh → Prop} {xs : List α} {O : Oh} {ok : Oh → Prop} (p : α → Bool) (g : α → PyData) (hok : ok O) (hz : xs.length ≤ 1000000)
    (h1 : ∀ x ∈ xs, ∀ C, C (p x) O → (Tg.nm i).put (en x) Γ fun Γ' => tt Γ' O C X0) (h2 : ∀ x ∈ xs, p x = true → ∀ C : DK, C (.d (g x)) O → (Tg.nm i).put (en x) Γ fun Γ' => we Γ' O C X0)
    (h : fin ((xs.filter p).map g) O) : lcGo ok (.nm i) tt we Γ fin (xs.map en) [] O := by
  refine lc_rule (fun q acc O' => ∃ ys : List α, q = ys.map en ∧ O' = O ∧ (∀ x ∈ ys, x ∈ xs) ∧ acc.length + ys.length ≤ 1000000 ∧ acc ++ (ys.filter p).map g = (xs.filter p).map g) ⟨xs, rfl, rfl, fun _ h => h, by simpa using hz, rfl⟩ ?_ ?_
  · rintro acc O' ⟨ys, e0, rfl, _, _, e⟩
    cases ys with
    | cons y ys => cases e0
    | nil =>
      simp only [List.filter_nil, List.map_nil, List.append_nil] at e
      subst e
      exact ⟨hok, h⟩
  · rintro x q acc O' ⟨ys, e0, rfl, hm, hl, e⟩
    cases ys with
    | nil => cases e0
    | cons y ys =>
      rw [List.map_cons] at e0
      injection e0 with e1 e2
      subst e1 e2
      refine ⟨hok, fun C N hC hN => ?_⟩
      unfold Tg.put
      refine h1 y (hm y List.mem_cons_self) _ ?_
      unfold kLcT
      rw [List.length_cons] at hl
      by_cases z : p y = true
      · rw [if_pos z]
        refine h2 y (hm y List.mem_cons_self) z _ (hC _ _ (by omega) ⟨ys, rfl, rfl, fun w hw => hm w (List.mem_cons_of_mem _ hw), by simp; omega, ?_⟩)
        rw [List.filter_cons_of_pos z, List.map_cons] at e
        rw [← e]; simp
      · rw [if_neg z]
        rw [List.filter_cons_of_neg z] at e
        exact hN _ ⟨ys, rfl, rfl, fun w hw => hm w (List.mem_cons_of_mem _ hw), by omega, e⟩
theorem lc_mapD {α : Type} (en : α → PyData) {i : Nat} {tt : DT} {we : DEx} {Γ : Gm} {fin : List PyData → Oh → Prop} {xs : List α} {O : Oh} {ok : Oh → Prop} (p : α → Bool) (g : α → PyData) (hok : ok O) (hz : xs.length ≤ 1000000)
    (h1 : ∀ x ∈ xs, ∀ C, C (p x) O → (Tg.nm i).put (.d (en x)) Γ fun Γ' => tt Γ' O C X0) (h2 : ∀ x ∈ xs, p x = true → ∀ C : DK, C (.d (g x)) O → (Tg.nm i).put (.d (en x)) Γ fun Γ' => we Γ' O C X0)
    (h : fin ((xs.filter p).map g) O) : lcGo ok (.nm i) tt we Γ fin ((xs.map en).map W.d) [] O := by
  rw [List.map_map]
  exact lc_map (W.d ∘ en) p g hok hz h1 h2 h
/-- .. each element kept -/
theorem lc_all {α : Type} (en : α → PyData) {i : Nat} {we : DEx} {Γ : Gm} {fin : List PyData → Oh → Prop} {xs : List α} {O : Oh} {ok : Oh → Prop} (g : α → PyData) (hok : ok O) (hz : xs.length ≤ 1000000)
    (h2 : ∀ x ∈ xs, ∀ C : DK, C (.d (g x)) O → (Tg.nm i).put (.d (en x)) Γ fun Γ' => we Γ' O C X0)
    (h : fin (xs.map g) O) : lcGo ok (.nm i) dYes we Γ fin ((xs.map en).map W.d) [] O :=
  lc_mapD en (fun _ => true) g hok hz (fun x _ C hC => by unfold Tg.put; exact hC) (fun x hx _ => h2 x hx) (by rw [List.filter_eq_self.mpr (fun _ _ => rfl)]; exact h)
/-- .. with a store that changes: along range(..) -/
theorem lc_rng {t : Tg} {tt : DT} {we : DEx} {Γ : Gm} {fin : List PyData → Oh → Prop} {n : Nat} {O : Oh} (I : Nat → List PyData → Oh → Prop) (h : I 0 [] O)
    (h0 : ∀ acc O, I n acc O → fin acc O)
    (h1 : ∀ k acc O, k < n → I k acc O → ∀ (C : DK) (N : Oh → Prop), (∀ z O', acc.length < 1000000 → I (k + 1) (acc ++ [z]) O' → C (.d z) O') → (∀ O', I (k + 1) acc O' → N O') →
      t.put (.d (.int (k : Nat))) Γ fun Γ1 => tt Γ1 O (kLcT we Γ1 C N) X0) : lcGo (fun _ => True) t tt we Γ fin (rgW 0 n) [] O := by
  refine lc_rule (fun q acc O => ∃ k m : Nat, k + m = n ∧ q = rgW (k : Nat) m ∧ I k acc O) ⟨0, n, by omega, rfl, h⟩ ?_ ?_
  · rintro acc O ⟨k, m, hk, e, i⟩
    cases m with
    | zero => have : k = n := by omega
              subst this; exact ⟨trivial, h0 _ _ i⟩
    | succ m => cases e
  · rintro x q acc O ⟨k, m, hk, e, i⟩
    cases m with
    | zero => cases e
    | succ m =>
      injection e with e1 e2
      subst e1 e2
      exact ⟨trivial, fun C N hC hN => h1 _ _ _ (by omega) i C N (fun z O' hz i' => hC _ _ hz ⟨k + 1, m, by omega, by simp, i'⟩) (fun O' i' => hN _ ⟨k + 1, m, by omega, by simp, i'⟩)⟩
theorem rgW_map : ∀ (m n : Nat), rgW (m : Nat) n = ((List.range' m n).map fun k => PyData.int (k : Nat)).map W.d
  | _, 0 => rfl
  | m, n + 1 => by
    show W.d (.int (m : Nat)) :: rgW ((m : Int) + 1) n = _
    rw [show ((m : Int) + 1) = ((m + 1 : Nat) : Int) by simp, rgW_map (m + 1) n]
    rfl
theorem rgW_range (n : Nat) : rgW 0 n = ((List.range n).map fun k => PyData.int (k : Nat)).map W.d := by
  rw [List.range_eq_range']; exact rgW_map 0 n
end Dl
namespace Dl
open PySem PySem.Spec PyProof.Rows L2
/-! ### dicts by texts -/
def OkS (s : Str) : Prop := PyData.strOk s = true ∧ s.length ≤ 12
def kvM (f : Str → W) (σ : List Str) : List (Key × W) := σ.map fun s => (.inr s, f s)
theorem valW_kvM (f : Str → W) (s : Str) : ∀ σ : List Str, valW (kvM f σ) (.inr s) = if s ∈ σ then some (f s) else none
  | [] => rfl
  | x :: r => by
    unfold valW kvM
    rw [List.map_cons]
    by_cases z : x = s
    · subst z
      rw [List.find?_cons_of_pos (by simp)]
      simp
    · rw [List.find?_cons_of_neg (by simpa using z)]
      have ih := valW_kvM f s r
      unfold valW kvM at ih
      rw [ih]
      have : (s ∈ x :: r) = (s ∈ r) := by
        rw [List.mem_cons]
        exact propext ⟨fun h => h.elim (fun e => absurd e.symm z) id, .inr⟩
      simp only [this]
/-- a dict by texts: a cell, or one that never changes -/
class KvM (x : W) (O : Oh) (f : outParam (Str → W)) (σ : outParam (List Str)) : Prop where
  e : asDk x O = some (kvM f σ)
instance {O : Oh} {j : Nat} {f : Str → W} {σ : List Str} [g : Cl O j (.dic (kvM f σ))] : KvM (.c j) O f σ := ⟨(inferInstance : IsDk (.c j) O (kvM f σ)).e⟩
abbrev kvD (f : Str → PyData) (σ : List Str) : List (PyData × PyData) := σ.map fun s => (PyData.str s, f s)
theorem keysD_kvD (f : Str → PyData) : ∀ σ : List Str, keysD (kvD f σ) = some (kvM (fun s => .d (f s)) σ)
  | [] => rfl
  | s :: r => by
    show (match keysD (kvD f r) with | some kvs => some (((Sum.inr s : Key), W.d (f s)) :: kvs) | none => none) = _
    rw [keysD_kvD f r]; rfl
instance {O : Oh} {f : Str → PyData} {σ : List Str} : KvM (.d (.dict (σ.map fun s => (PyData.str s, f s)))) O (fun s => .d (f s)) σ := ⟨keysD_kvD f σ⟩
theorem go_inK {neg : Bool} {x : W} {s : Str} {O : Oh} {R : DK} {f : Str → W} {σ : List Str} [g : KvM x O f σ] (h : R (.d (.bool (if neg then decide (s ∉ σ) else decide (s ∈ σ)))) O) : dIn2 neg (.d (.str s)) x O R := by
  have e := g.e
  unfold dIn2
  rw [if_pos (by unfold isDictW; rw [e]; rfl)]
  unfold dGet
  rw [e]
  show R (.d (.bool (if neg then !(valW (kvM f σ) (.inr s)).isSome else (valW (kvM f σ) (.inr s)).isSome))) O
  rw [valW_kvM]
  by_cases z : s ∈ σ
  · rw [if_pos z]; cases neg <;> simpa [z] using h
  · rw [if_neg z]; cases neg <;> simpa [z] using h
instance {x : W} {s : Str} {O : Oh} {R : DK} {f : Str → W} {σ : List Str} [g : KvM x O f σ] : Go (dIn2 false (.d (.str s)) x O R) (R (.d (.bool (decide (s ∈ σ)))) O) := ⟨fun h => go_inK h⟩
instance {x : W} {s : Str} {O : Oh} {R : DK} {f : Str → W} {σ : List Str} [g : KvM x O f σ] : Go (dIn2 true (.d (.str s)) x O R) (R (.d (.bool (decide (s ∉ σ)))) O) := ⟨fun h => go_inK (by rw [if_pos rfl]; exact h)⟩
/-! ### walks where something has to stay -/
end Dl
namespace Dl
open PySem PySem.Spec PyProof.Rows L2
/-! ### rows as data -/
/-- few rows, of few unlike names -/
structure GoodR (rs : List (List Str)) : Prop where
  few : rs.length ≤ 6
  row : ∀ r ∈ rs, r.Nodup ∧ r.length ≤ 8 ∧ ∀ s ∈ r, OkS s
def namesOf (rs : List (List Str)) : List Str := met rs.flatten
theorem GoodR.flat {rs : List (List Str)} (g : GoodR rs) : rs.flatten.length ≤ 48 := by
  have : ∀ rs : List (List Str), (∀ r ∈ rs, r.length ≤ 8) → rs.flatten.length ≤ 8 * rs.length := by
    intro rs
    induction rs with
    | nil => intro _; simp
    | cons r q ih =>
      intro h
      rw [List.flatten_cons, List.length_append, List.length_cons]
      have := ih fun x hx => h x (List.mem_cons_of_mem _ hx)
      have := h r List.mem_cons_self
      omega
  have h1 := this rs fun r hr => (g.row r hr).2.1
  have := g.few
  omega
theorem met_len (xs : List Str) : (met xs).length ≤ xs.length := by have := met_le_aux xs []; simpa [met] using this
/-! ### wishes -/
end Dl
namespace Dl
open PySem PySem.Spec PyProof.Rows L2
/-! ### each once -/
theorem addMet_nodup {σ : List Str} {v : Str} (h : σ.Nodup) : (addMet σ v).Nodup := by
  unfold addMet
  split
  · exact h
  · next c =>
    rw [List.nodup_append]
    refine ⟨h, by simp, fun a ha b hb => ?_⟩
    rw [List.mem_singleton] at hb
    subst hb
    intro e
    subst e
    exact c (List.any_eq_true.mpr ⟨a, ha, by simp⟩)
theorem met_nodup (xs : List Str) : (met xs).Nodup := by
  have : ∀ (ys σ : List Str), σ.Nodup → (ys.foldl addMet σ).Nodup := by
    intro ys
    induction ys with
    | nil => exact fun σ h => h
    | cons y r ih => exact fun σ h => ih _ (addMet_nodup h)
  exact this xs [] List.nodup_nil
theorem mem_met {xs : List Str} {s : Str} (h : s ∈ xs) : s ∈ met xs := by
  have key : ∀ (ys σ : List Str), (s ∈ σ ∨ s ∈ ys) → s ∈ ys.foldl addMet σ := by
    intro ys
    induction ys with
    | nil => intro σ h; exact h.elim id (fun h => by cases h)
    | cons y r ih =>
      intro σ h
      apply ih
      rcases h with h | h
      · left; unfold addMet; split
        · exact h
        · exact List.mem_append_left _ h
      · rcases List.mem_cons.mp h with rfl | h
        · left; unfold addMet; split
          · next c =>
            obtain ⟨y, hy, e⟩ := List.any_eq_true.mp c
            rw [← eq_of_beq e]; exact hy
          · simp
        · exact .inr h
  exact key xs [] (.inr h)
/-- unlike ones among some are no more than these -/
theorem nodup_sub_len {xs ys : List Str} (h : xs.Nodup) (s : ∀ x ∈ xs, x ∈ ys) : xs.length ≤ ys.length := by
  induction xs generalizing ys with
  | nil => simp
  | cons x r ih =>
    rw [List.nodup_cons] at h
    have hx := s x List.mem_cons_self
    have := ih (ys := ys.erase x) h.2 fun y hy => (List.mem_erase_of_ne (a := y) (b := x) (fun e => h.1 (by rw [← e]; exact hy))).mpr (s y (List.mem_cons_of_mem _ hy))
    rw [List.length_erase_of_mem hx] at this
    rw [List.length_cons]
    have := List.length_pos_of_mem hx
    omega
/-! ### rings -/
end Dl
namespace Dl
open PySem PySem.Spec PyProof.Rows L2
abbrev cS (xs : List Str) : Cell := .lst ((sD xs).map W.d)
theorem str_snoc (xs : List Str) (s : Str) : (sD xs).map W.d ++ [.d (.str s)] = (sD (xs ++ [s])).map W.d := by simp
/-! ### merged -/
end Dl
namespace Dl
open PySem PySem.Spec PyProof.Rows L2
/-! ### what merged tells -/
structure Order (rs : List (List Str)) (order : List Str) : Prop where
  perm : order.Perm (namesOf rs)
  keep : ∀ r ∈ rs, order.filter (fun s => decide (s ∈ r)) = r
theorem namesOf_mem {rs : List (List Str)} {r : List Str} {s : Str} (hr : r ∈ rs) (hs : s ∈ r) : s ∈ namesOf rs := mem_met (List.mem_flatten.mpr ⟨r, hr, hs⟩)
end Dl
namespace Dl
open PySem PySem.Spec PyProof.Rows L2
/-! ### sorted, all -/
class BoolsD (ds : List PyData) (bs : outParam (List Bool)) : Prop where
  e : boolsD ds = some bs
theorem boolsD_mapf {α : Type} (f : α → Bool) (xs : List α) : boolsD (xs.map fun x => .bool (f x)) = some (xs.map f) := by
  induction xs with
  | nil => rfl
  | cons x r ih => show (match boolsD (r.map fun x => .bool (f x)) with | some bs => some (f x :: bs) | none => none) = _; rw [ih]; rfl
instance {α : Type} {f : α → Bool} {xs : List α} : BoolsD (xs.map fun x => .bool (f x)) (xs.map f) := ⟨boolsD_mapf f xs⟩
theorem go_all {ds : List PyData} {bs : List Bool} {O : Oh} {R : DK} [b : BoolsD ds bs] (h : R (.d (.bool (bs.all id))) O) : dAll [.d (.list ds)] O R := by
  unfold dAll; dsimp only; rw [b.e]; exact h
instance {ds : List PyData} {bs : List Bool} {O : Oh} {R : DK} [b : BoolsD ds bs] : Go (dAll [.d (.list ds)] O R) (R (.d (.bool (bs.all id))) O) := ⟨go_all⟩
theorem alike_sD (xs : List Str) : alikeB (sD xs) = true := by
  unfold alikeB
  rw [List.all_eq_true]
  intro d hd
  obtain ⟨s, _, rfl⟩ := List.mem_map.mp hd
  rw [List.all_eq_true]
  intro e he
  obtain ⟨t, _, rfl⟩ := List.mem_map.mp he
  rfl
theorem sortable_sD (xs : List Str) : sortableB (sD xs) = true := by
  unfold sortableB
  rw [Bool.or_eq_true]
  right
  rw [List.all_eq_true]
  intro d hd
  obtain ⟨s, _, rfl⟩ := List.mem_map.mp hd
  rfl
class SrtS (x : W) (O : Oh) (xs : outParam (List Str)) : Prop where
  n : asDk x O = none
  e : asS x O = some ((sD xs).map W.d)
instance {O : Oh} {xs : List Str} : SrtS (.d (.tuple (xs.map PyData.str))) O xs := ⟨rfl, rfl⟩
instance {O : Oh} {xs : List Str} : SrtS (.d (.list (xs.map PyData.str))) O xs := ⟨rfl, rfl⟩
instance {O : Oh} {j : Nat} {xs : List Str} [g : Cl O j (.lst ((xs.map PyData.str).map W.d))] : SrtS (.c j) O xs := ⟨(inferInstance : NoDk (.c j) O).e, by unfold asS; dsimp only; rw [g.e]⟩
theorem go_sorted {x : W} {O : Oh} {xs : List Str} {R : DK} [q : SrtS x O xs] (h : R (.d (lS (srtS xs))) O) : dSorted [x] O R := by
  unfold dSorted; dsimp only; rw [q.n]; dsimp only; rw [q.e]; dsimp only; rw [datas_sD]; dsimp only
  rw [srtD_strs]
  exact ⟨alike_sD xs, sortable_sD xs, shp_sD 40 xs, h⟩
instance {x : W} {O : Oh} {xs : List Str} {R : DK} [q : SrtS x O xs] : Go (dSorted [x] O R) (R (.d (lS (srtS xs))) O) := ⟨go_sorted⟩
end Dl
namespace Dl
open PySem PySem.Spec PyProof.Rows L2
class AtN {α : Type} (xs : List α) (k : Nat) (x : outParam α) : Prop where
  e : xs[k]? = some x
instance {α : Type} {en : α → PyData} {xs : List α} {k : Nat} {x : α} [a : AtN xs k x] : Ix (xs.map en) (k : Nat) (en x) := ⟨atI_map (by rw [List.getElem?_map, a.e]; rfl)⟩
/-! #### + of lists, and slices of what is new -/
end Dl
namespace Dl
open PySem PySem.Spec PyProof.Rows L2
/-! ### lists of numbers -/
theorem eqv_int (a b : Int) : PyData.eqv (.int a) (.int b) = decide (a = b) := by simp [PyData.eqv]; rfl
theorem Order.nd {rs : List (List Str)} {order : List Str} (k : Order rs order) : order.Nodup := k.perm.nodup_iff.mpr (met_nodup _)
theorem Order.mem {rs : List (List Str)} {order : List Str} (k : Order rs order) {r : List Str} {s : Str} (hr : r ∈ rs) (hs : s ∈ r) : s ∈ order := k.perm.mem_iff.mpr (namesOf_mem hr hs)
end Dl
namespace Dl
open PySem PySem.Spec PyProof.Rows L2
/-! ### pots -/
abbrev potC (x y : Int) : Cell := .lst (([.int x, .int y] : List PyData).map W.d)
def PotOk (x y : Int) : Prop := 0 ≤ x ∧ 0 ≤ y ∧ y < 1099511627776
def PotAt (O : Oh) (p : Nat) : Prop := ∃ x y, O[p]? = some (potC x y) ∧ PotOk x y
def Chg (p : Nat) (O O' : Oh) : Prop := p < O.length ∧ ∃ x y, O' = O.set p (potC x y) ∧ PotOk x y
theorem Chg.pot {p : Nat} {O O' : Oh} (h : Chg p O O') : PotAt O' p := by
  obtain ⟨hp, x, y, rfl, ok⟩ := h
  exact ⟨x, y, by rw [List.getElem?_set_self hp], ok⟩
theorem Chg.trans {p : Nat} {O O1 O2 : Oh} (h : Chg p O O1) (h2 : Chg p O1 O2) : Chg p O O2 := by
  obtain ⟨hp, x, y, rfl, ok⟩ := h
  obtain ⟨_, x2, y2, rfl, ok2⟩ := h2
  exact ⟨hp, x2, y2, by rw [List.set_set], ok2⟩
theorem PotAt.lt {O : Oh} {p : Nat} (h : PotAt O p) : p < O.length := by
  obtain ⟨x, y, e, _⟩ := h
  exact (List.getElem?_eq_some_iff.mp e).1
theorem PotAt.chg {O : Oh} {p : Nat} (h : PotAt O p) : Chg p O O := by
  have hl := h.lt
  obtain ⟨x, y, e, ok⟩ := h
  refine ⟨hl, x, y, ?_, ok⟩
  rw [List.getElem?_eq_getElem hl] at e
  injection e with e
  rw [← e, List.set_getElem_self]
theorem PotAt.app {O L : Oh} {p : Nat} (h : PotAt O p) : PotAt (O ++ L) p := by
  have hl := h.lt
  obtain ⟨x, y, e, ok⟩ := h
  exact ⟨x, y, by rw [List.getElem?_append_left hl]; exact e, ok⟩
theorem Chg.app {p : Nat} {O L S : Oh} (h : Chg p (O ++ L) S) (hp : p < O.length) : ∃ O1, S = O1 ++ L ∧ Chg p O O1 := by
  obtain ⟨_, x, y, rfl, ok⟩ := h
  exact ⟨O.set p (potC x y), by rw [List.set_append_left _ _ hp], hp, x, y, rfl, ok⟩
theorem Chg.len {p : Nat} {O O1 : Oh} (h : Chg p O O1) : O1.length = O.length := by
  obtain ⟨_, x, y, rfl, _⟩ := h
  rw [List.length_set]
theorem Chg.clo {p n : Nat} {O O1 : Oh} (h : Chg p O O1) (c : CloC n O) : CloC n O1 := by
  obtain ⟨_, x, y, rfl, _⟩ := h
  refine ⟨?_⟩
  have := c.e
  unfold Clo at this ⊢
  rw [List.all_eq_true] at this ⊢
  intro z hz
  rcases List.mem_or_eq_of_mem_set hz with hz | rfl
  · exact this z hz
  · rfl
/-- the store at the start, and as it is, but for the pot -/
structure Pt (p n : Nat) (O0 O : Oh) : Prop where
  chg : Chg p O0 O
  l : Len O n
  c : CloC n O
theorem Pt.start {p n : Nat} {O : Oh} (h : PotAt O p) (l : Len O n) (c : CloC n O) : Pt p n O O := ⟨h.chg, l, c⟩
theorem Pt.lt {p n : Nat} {O0 O : Oh} (h : Pt p n O0 O) : p < O.length := by rw [h.chg.len]; exact h.chg.1
theorem Pt.step {p n : Nat} {O0 O L S : Oh} (h : Pt p n O0 O) (k : Chg p (O ++ L) S) : ∃ O1, S = O1 ++ L ∧ Pt p n O0 O1 := by
  obtain ⟨O1, e, k⟩ := k.app h.lt
  exact ⟨O1, e, h.chg.trans k, ⟨by rw [k.len]; exact h.l.e⟩, k.clo h.c⟩
/-- a def that draws from the pot at p -/
def Draws (p : Nat) (f : DFn) (args : List W) (Q : PyData → Prop) : Prop := ∀ (O : Oh) (R : DK) (xe : Exn → Oh → Prop), PotAt O p → (∀ v O', Q v → Chg p O O' → R (.d v) O') → f args O R xe
theorem pt_call {p n : Nat} {f : DFn} {args : List W} {Q : PyData → Prop} {O0 O L : Oh} {R : DK} {xe : Exn → Oh → Prop} (d : Draws p f args Q) (h : Pt p n O0 O)
    (k : ∀ v O1, Q v → Pt p n O0 O1 → R (.d v) (O1 ++ L)) : f args (O ++ L) R xe := by
  refine d _ _ _ (PotAt.app (h.chg.pot)) fun v O' hq hc => ?_
  obtain ⟨O1, rfl, h1⟩ := h.step hc
  exact k v O1 hq h1
theorem digit_draws {p : Nat} {m : Int} (hm : 0 < m) (hz : m ≤ 4611686018427387904) : Draws p w__law_digit [.c p, .d (.int m)] fun v => ∃ d : Nat, v = .int d ∧ (d : Int) < m := by
  intro O R xe hp h
  have hlt := hp.lt
  obtain ⟨x, y, e, ok⟩ := hp
  obtain ⟨ok1, ok2, ok3⟩ := id ok
  refine def_start rfl fun n l cl => ?_
  haveI : Cl O p (potC x y) := ⟨e⟩
  repeat refine Go.h ?_
  refine dcase (fun hx => ?_) (fun hx => ?_)
  · repeat refine Go.h ?_
    refine ⟨hm, ?_⟩
    repeat refine Go.h ?_
    refine ⟨⟨hm, ?_⟩, ?_⟩
    · have h1 : m.natAbs < 2 ^ 63 := by omega
      have h2 : m.natAbs.log2 < 63 := (Nat.log2_lt (by omega)).mpr h1
      omega
    repeat refine Go.h ?_
    have hc : Chg p O (O.set p (potC (x / m) y)) := ⟨hlt, _, _, rfl, Int.ediv_nonneg ok1 (by omega), ok2, ok3⟩
    refine putix_lst (m := 0) rfl ?_
    rw [List.set_append_left _ _ hlt]
    haveI := hc.clo cl
    haveI : Len (O.set p (potC (x / m) y)) n := ⟨by rw [hc.len]; exact l.e⟩
    show dRet _ _ _ _ (O.set p (potC (x / m) y) ++ [])
    repeat refine Go.h ?_
    refine h _ _ ⟨(x % m).toNat, ?_, ?_⟩ hc
    · rw [Int.toNat_of_nonneg (Int.emod_nonneg _ (by omega))]
    · rw [Int.toNat_of_nonneg (Int.emod_nonneg _ (by omega))]; exact Int.emod_lt_of_pos _ hm
  · repeat refine Go.h ?_
    refine ⟨.inl ⟨by omega, by omega⟩, ?_⟩
    repeat refine Go.h ?_
    refine ⟨by decide, ?_⟩
    repeat refine Go.h ?_
    have hc : Chg p O (O.set p (potC x ((y * 39373 + 20011) % 2147483647))) := ⟨hlt, _, _, rfl, ok1, Int.emod_nonneg _ (by decide), Int.lt_trans (Int.emod_lt_of_pos _ (by decide)) (by decide)⟩
    refine putix_lst (m := 1) rfl ?_
    rw [List.set_append_left _ _ hlt]
    haveI := hc.clo cl
    have y2 := Int.emod_nonneg (y * 39373 + 20011) (b := 2147483647) (by decide)
    have y3 := Int.emod_lt_of_pos (y * 39373 + 20011) (b := 2147483647) (by decide)
    generalize (y * 39373 + 20011) % 2147483647 = z at *
    haveI : Len (O.set p (potC x z)) n := ⟨by rw [hc.len]; exact l.e⟩
    haveI : Cl (O.set p (potC x z)) p (potC x z) := ⟨List.getElem?_set_self hlt⟩
    show dRet _ _ _ _ (O.set p (potC x z) ++ [])
    repeat refine Go.h ?_
    refine ⟨.inl ⟨by omega, by omega⟩, ?_⟩
    repeat refine Go.h ?_
    refine ⟨by decide, ?_⟩
    repeat refine Go.h ?_
    refine ⟨⟨by decide, by decide⟩, ?_⟩
    repeat refine Go.h ?_
    refine ⟨hm, ?_⟩
    repeat refine Go.h ?_
    refine h _ _ ⟨(z * z % 2147483563 / 11 % m).toNat, ?_, ?_⟩ hc
    · rw [Int.toNat_of_nonneg (Int.emod_nonneg _ (by omega))]
    · rw [Int.toNat_of_nonneg (Int.emod_nonneg _ (by omega))]; exact Int.emod_lt_of_pos _ hm
end Dl
namespace Dl
open PySem PySem.Spec PyProof.Rows L2
/-! ### letters -/
abbrev sg (c : Nat) : Str := ⟨#[c]⟩
theorem len_cps (s : Str) : s.length = s.cps.toList.length := rfl
theorem letters_at : ∀ d : Nat, d < 26 → ("abcdefghijklmnopqrstuvwxyz" : Str).cps.toList[d]? = some (97 + d) := by decide +kernel
theorem go_ixS {s : Str} {i : Int} {c : Nat} {O : Oh} {R : DK} (hl : s.length ≤ 1000000) (hc : atI s.cps.toList i = some c) (h : R (.d (.str (sg c))) O) : dIx2 (.d (.str s)) (.d (.int i)) O R := by
  show (s.length ≤ 1000000 ∧ _)
  refine ⟨hl, ?_⟩
  rw [hc]
  exact h
theorem go_letter {d : Nat} {O : Oh} {R : DK} (hd : d < 26) (h : R (.d (.str (sg (97 + d)))) O) : dIx2 (.d (.str "abcdefghijklmnopqrstuvwxyz")) (.d (.int (d : Nat))) O R :=
  go_ixS (by decide +kernel) (atI_nat (letters_at d hd)) h
def kJoin2 (z : Str) (R : DK) : DK := fun x O2 => match asS x O2 with
  | some ws => (match datas ws with
    | some ds => (match strsD ds with
      | some ys => (ys.map (·.length)).sum + ys.length * z.length ≤ 1000000 ∧ R (.d (.str (Txt.join z ys))) O2
      | none => False)
    | none => False)
  | none => False
def kJoin1 (wa : DEx) (Γ : Gm) (R : DK) (xe : DX) : DK := fun o O1 => match o with
  | .d (.str z) => wa Γ O1 (kJoin2 z R) xe
  | _ => False
instance {R : DK} {Γ : Gm} {O : Oh} {xe : DX} {wo wa : DEx} : Go (dJoin wo wa Γ O R xe) (wo Γ O (kJoin1 wa Γ R xe) xe) := ⟨fun h => h⟩
instance {R : DK} {Γ : Gm} {O : Oh} {xe : DX} {wa : DEx} {z : Str} : Go (kJoin1 wa Γ R xe (.d (.str z)) O) (wa Γ O (kJoin2 z R) xe) := ⟨fun h => h⟩
theorem go_join {x : W} {O : Oh} {ys : List Str} {z : Str} {R : DK} [q : SrtS x O ys] (hz : (ys.map (·.length)).sum + ys.length * z.length ≤ 1000000) (h : R (.d (.str (Txt.join z ys))) O) : kJoin2 z R x O := by
  unfold kJoin2; rw [q.e]; dsimp only; rw [datas_sD]; dsimp only; rw [strsD_map]; exact ⟨hz, h⟩
theorem sum_len {ys : List Str} (h : ∀ y ∈ ys, y.length ≤ 1) : (ys.map (·.length)).sum ≤ ys.length := by
  induction ys with
  | nil => simp
  | cons y r ih =>
    have h1 := h y List.mem_cons_self
    have h2 := ih fun y hy => h y (List.mem_cons_of_mem _ hy)
    simp only [List.map_cons, List.sum_cons, List.length_cons]
    omega
theorem strOk_sg {c : Nat} (h : c < 1114112) : PyData.strOk (sg c) = true := by
  unfold PyData.strOk; simp [h]
theorem strOk_join0 {ys : List Str} (h : ∀ y ∈ ys, PyData.strOk y = true) : PyData.strOk (Txt.join "" ys) = true := strOk_join (by decide +kernel) (List.all_eq_true.mpr h)
theorem go_slS {s : Str} {lo hi : Option Int} {O : Oh} {R : DK} (hl : s.length ≤ 1000000) (h : R (.d (.str (cutS s lo hi))) O) : dSl (.d (.str s)) lo hi O R := ⟨hl, h⟩
theorem len_app (a b : Str) : (a ++ b).length = a.length + b.length := by
  show (a.cps ++ b.cps).size = _
  rw [Array.size_append]; rfl
theorem go_addS {a b : Str} {O : Oh} {R : DK} (hl : a.length + b.length ≤ 1000000) (h : R (.d (.str (a ++ b))) O) : dAdd (.d (.str a)) (.d (.str b)) O R := ⟨hl, h⟩
def cand (u : Str) (t : Nat) : Str := u ++ sg (97 + t) ++ "q"
theorem cps_app (a b : Str) : (a ++ b).cps.toList = a.cps.toList ++ b.cps.toList := by
  show (a.cps ++ b.cps).toList = _
  rw [Array.toList_append]
theorem cand_inj {u : Str} {s t : Nat} (h : cand u s = cand u t) : s = t := by
  have h := congrArg (fun x : Str => x.cps.toList) h
  unfold cand at h
  simp only [cps_app, List.append_assoc] at h
  have h := List.append_cancel_left h
  injection h with h _
  omega
theorem cut_len6 (s : Str) : (cutS s none (some 6)).length ≤ 6 := by
  unfold cutS
  rw [HT.sIx_none, show (6 : Int) = ((6 : Nat) : Int) from rfl, HT.sIx_nat]
  show (List.toArray _).size ≤ 6
  rw [List.size_toArray, List.length_take]
  omega
theorem cand_ok {s : Str} {t : Nat} (h : OkS s) (ht : t < 26) : OkS (cand (cutS s none (some 6)) t) := by
  refine ⟨strOk_append (strOk_append (strOk_cut h.1) (strOk_sg (by omega))) (by decide +kernel), ?_⟩
  unfold cand
  rw [len_app, len_app]
  have := cut_len6 s
  show _ + 1 + 1 ≤ 12
  omega
/-- one of many unlike ones is not among few -/
theorem one_new {xs found : List Str} (nd : xs.Nodup) (h : found.length < xs.length) : (xs.filter fun s => decide (s ∉ found)) ≠ [] := by
  intro e
  rw [List.filter_eq_nil_iff] at e
  have := nodup_sub_len nd fun x hx => Classical.byContradiction fun z => e x hx (decide_eq_true z)
  omega
theorem cands_nd (u : Str) (n : Nat) : ((List.range n).map (cand u)).Nodup := by
  unfold List.Nodup
  rw [List.pairwise_map]
  exact List.Pairwise.imp (fun {a b} hab e => hab (cand_inj e)) List.nodup_range
/-- a name -/
def IsNm (s : Str) : Prop := 1 ≤ s.length ∧ s.length ≤ 8 ∧ ∀ c ∈ s.cps.toList, 97 ≤ c ∧ c < 123
structure NamesD (xs : List Str) (m : Nat) : Prop where
  nd : xs.Nodup
  ok : ∀ s ∈ xs, OkS s
  len : xs.length = m
  low : ∀ s ∈ xs, IsNm s
theorem join_len1 {ys : List Str} (h : ∀ y ∈ ys, y.length = 1) : (Txt.join "" ys).length = ys.length := by
  rw [len_cps, join_list, List.length_append]
  have e : ∀ zs : List Str, (∀ y ∈ zs, y.length = 1) → ((zs.map fun p => ("" : Str).cps.toList ++ p.cps.toList).flatten).length = zs.length := by
    intro zs
    induction zs with
    | nil => intro _; simp
    | cons z r ih =>
      intro h
      rw [List.map_cons, List.flatten_cons, List.length_append, List.length_cons, List.length_append]
      have h1 := h z List.mem_cons_self
      rw [len_cps] at h1
      have h2 := ih fun y hy => h y (List.mem_cons_of_mem _ hy)
      have h3 : ("" : Str).cps.toList.length = 0 := rfl
      omega
  cases ys with
  | nil => rfl
  | cons y r =>
    have h1 := h y List.mem_cons_self
    rw [len_cps] at h1
    have h2 := e r fun y hy => h y (List.mem_cons_of_mem _ hy)
    simp only [List.headD_cons, List.drop_succ_cons, List.drop_zero, List.length_cons] at h2 ⊢
    omega
theorem low_join {ys : List Str} (h : ∀ y ∈ ys, ∀ c ∈ y.cps.toList, 97 ≤ c ∧ c < 123) : ∀ c ∈ (Txt.join "" ys).cps.toList, 97 ≤ c ∧ c < 123 := fun c hc => by
  rcases join_cps _ _ c hc with hc | ⟨y, hy, hc⟩
  · cases hc
  · exact h y hy c hc
theorem cut_mem {s : Str} {lo hi : Option Int} {c : Nat} (h : c ∈ (cutS s lo hi).cps.toList) : c ∈ s.cps.toList := by
  unfold cutS at h
  simp only [] at h
  exact List.mem_of_mem_drop (List.mem_of_mem_take h)
theorem cand_low {s : Str} {t : Nat} (h : IsNm s) (ht : t < 26) : IsNm (cand (cutS s none (some 6)) t) := by
  obtain ⟨h1, h2, h3⟩ := h
  have h6 := cut_len6 s
  refine ⟨?_, ?_, fun c hc => ?_⟩
  · unfold cand
    rw [len_app, len_app]
    show 1 ≤ _ + 1 + 1
    omega
  · unfold cand
    rw [len_app, len_app]
    show _ + 1 + 1 ≤ 8
    omega
  · unfold cand at hc
    rw [cps_app, cps_app, List.mem_append, List.mem_append] at hc
    rcases hc with (hc | hc) | hc
    · exact h3 c (cut_mem hc)
    · have : c = 97 + t := by simpa using hc
      omega
    · have : c = 113 := by simpa using (show c ∈ [113] from hc)
      omega
theorem NamesD.snoc {xs : List Str} {m : Nat} {s : Str} (nm : NamesD xs m) (hs : s ∉ xs) (ok : OkS s) (low : IsNm s) : NamesD (xs ++ [s]) (m + 1) := by
  refine ⟨?_, ?_, by simp [nm.len], ?_⟩
  · rw [List.nodup_append]
    refine ⟨nm.nd, by simp, fun a ha b hb => ?_⟩
    rw [List.mem_singleton] at hb
    subst hb
    intro e
    subst e
    exact hs ha
  · intro t ht
    rcases List.mem_append.mp ht with ht | ht
    · exact nm.ok t ht
    · rw [List.mem_singleton.mp ht]; exact ok
  · intro t ht
    rcases List.mem_append.mp ht with ht | ht
    · exact nm.low t ht
    · rw [List.mem_singleton.mp ht]; exact low
/-! ### names are drawn -/
theorem digit_at {p n : Nat} {m : Int} {O0 O L : Oh} {R : DK} {xe : Exn → Oh → Prop} (hm : 0 < m) (hz : m ≤ 4611686018427387904) (h : Pt p n O0 O) (k : ∀ (d : Nat) O1, (d : Int) < m → Pt p n O0 O1 → R (.d (.int d)) (O1 ++ L)) : w__law_digit [.c p, .d (.int m)] (O ++ L) R xe :=
  pt_call (digit_draws hm hz) h fun v O1 ⟨d, e, hd⟩ h1 => by subst e; exact k d O1 hd h1
theorem names_draw {p : Nat} {m : Nat} (hm : m ≤ 20) : Draws p w__law_names [.c p, .d (.int m)] fun v => ∃ xs, v = lS xs ∧ NamesD xs m := by
  intro O R xe hp h
  refine def_start rfl fun n l cl => ?_
  repeat refine Go.h ?_
  refine go_rng (by omega) ?_
  repeat refine Go.h ?_
  refine for_rng (fun k Γ S => ∃ O1 found a b c d e f, Γ = [some (.c p), some (.d (.int m)), some (.d (.str "abcdefghijklmnopqrstuvwxyz")), some (.c (n + 0)), a, b, c, d, e, f] ∧ S = O1 ++ [cS found] ∧ Pt p n O O1 ∧ NamesD found k)
    ⟨O, [], _, _, _, _, _, _, rfl, rfl, Pt.start hp l cl, List.nodup_nil, by simp, rfl, by simp⟩ ?_ ?_
  · rintro Γ S ⟨O1, found, a, b, c, d, e, f, rfl, rfl, pt, nm⟩
    haveI := pt.l
    haveI := pt.c
    repeat refine Go.h ?_
    exact h _ _ ⟨found, rfl, nm⟩ pt.chg
  · rintro k Γ S hk ⟨O1, found, a, b, c, d, e, f, rfl, rfl, pt, nm⟩ C hC
    haveI := pt.l
    haveI := pt.c
    repeat refine Go.h ?_
    refine digit_at (by decide) (by decide) pt fun d0 O2 hd0 pt => ?_
    repeat refine Go.h ?_
    have hi : ∃ m : Nat, atI (([PyData.int 1, .int 2, .int 8] : List PyData).map W.d) (d0 : Nat) = some (.d (.int m)) ∧ 1 ≤ m ∧ m ≤ 8 := by
      have : d0 = 0 ∨ d0 = 1 ∨ d0 = 2 := by omega
      rcases this with rfl | rfl | rfl
      · exact ⟨1, rfl, by decide, by decide⟩
      · exact ⟨2, rfl, by decide, by decide⟩
      · exact ⟨8, rfl, by decide, by decide⟩
    obtain ⟨w, hw, hw1, hw2⟩ := hi
    refine go_ix hw ?_
    repeat refine Go.h ?_
    haveI := pt.l
    haveI := pt.c
    refine digit_at (by omega) (by omega) pt fun d1 O3 hd1 pt => ?_
    haveI := pt.l
    haveI := pt.c
    repeat refine Go.h ?_
    rw [show (1 : Int) + (d1 : Nat) = ((d1 + 1 : Nat) : Int) by omega]
    repeat refine Go.h ?_
    refine go_rng (by omega) ?_
    repeat refine Go.h ?_
    refine lc_rng (fun k acc S => ∃ O4 cs, S = O4 ++ [cS found] ∧ Pt p n O O4 ∧ acc = sD cs ∧ (∀ c ∈ cs, c.length = 1 ∧ PyData.strOk c = true ∧ ∀ x ∈ c.cps.toList, 97 ≤ x ∧ x < 123) ∧ cs.length = k)
      ⟨O3, [], rfl, pt, rfl, by simp, rfl⟩ ?_ ?_
    rotate_left
    · rintro k1 acc S hk1 ⟨O4, cs, rfl, pt, rfl, hcs, hl⟩ C2 N2 hC2 hN2
      haveI := pt.l
      haveI := pt.c
      repeat refine Go.h ?_
      refine digit_at (by decide) (by decide) pt fun d2 O5 hd2 pt => ?_
      repeat refine Go.h ?_
      refine go_letter (by omega) ?_
      refine hC2 _ _ (by simp; omega) ⟨O5, cs ++ [sg (97 + d2)], rfl, pt, by simp, ?_, by simp [hl]⟩
      intro c hc
      rcases List.mem_append.mp hc with hc | hc
      · exact hcs c hc
      · rw [List.mem_singleton.mp hc]; exact ⟨rfl, strOk_sg (by omega), fun x hx => by
          have : x = 97 + d2 := by simpa using hx
          omega⟩
    · rintro acc S ⟨O4, cs, rfl, pt, rfl, hcs, hl⟩
      haveI := pt.l
      haveI := pt.c
      have hj := join_len1 fun c hc => (hcs c hc).1
      have hs := sum_len fun c hc => Nat.le_of_eq (hcs c hc).1
      refine go_join (by rw [show ("" : Str).length = 0 from rfl]; omega) ?_
      have ok : OkS (Txt.join "" cs) := ⟨strOk_join0 fun c hc => (hcs c hc).2.1, by omega⟩
      have low : IsNm (Txt.join "" cs) := ⟨by omega, by omega, low_join fun c hc => (hcs c hc).2.2⟩
      have hj8 : (Txt.join "" cs).length ≤ 8 := by omega
      generalize Txt.join "" cs = name at *
      repeat refine Go.h ?_
      refine dcase (fun hm => ?_) (fun hm => ?_)
      · repeat refine Go.h ?_
        rw [show (m : Int) + 1 = ((m + 1 : Nat) : Int) by omega]
        refine go_rng (by omega) ?_
        rw [rgW_range]
        repeat refine Go.h ?_
        refine lc_all (fun t : Nat => PyData.int t) (fun t => .str (cand (cutS name none (some 6)) t)) trivial (by rw [List.length_range]; omega) (fun t ht C3 hC3 => ?_) ?_
        · have ht : t < m + 1 := List.mem_range.mp ht
          repeat refine Go.h ?_
          refine go_slS (by omega) ?_
          repeat refine Go.h ?_
          refine go_letter (by omega) ?_
          repeat refine Go.h ?_
          have h6 := cut_len6 name
          refine go_addS (by show _ + 1 ≤ _; omega) ?_
          repeat refine Go.h ?_
          refine go_addS (by rw [len_app]; show _ + 1 + 1 ≤ _; omega) ?_
          exact hC3
        repeat refine Go.h ?_
        have e1 : ((List.range (m + 1)).map fun t => PyData.str (cand (cutS name none (some 6)) t)) = sD ((List.range (m + 1)).map (cand (cutS name none (some 6)))) := by unfold sD; rw [List.map_map]; rfl
        rw [e1]
        refine lc_mapD PyData.str (fun s => decide (s ∉ found)) PyData.str trivial (by simp; omega) (fun x _ C3 hC3 => ?_) (fun x _ _ C3 hC3 => ?_) ?_
        · repeat refine Go.h ?_
          exact hC3
        · repeat refine Go.h ?_
          exact hC3
        have hne := one_new (found := found) (cands_nd (cutS name none (some 6)) (m + 1)) (by rw [nm.len]; simp; omega)
        cases hf : ((List.range (m + 1)).map (cand (cutS name none (some 6)))).filter (fun s => decide (s ∉ found)) with
        | nil => exact absurd hf hne
        | cons s0 t0 =>
          have hs0 : s0 ∈ ((List.range (m + 1)).map (cand (cutS name none (some 6)))).filter (fun s => decide (s ∉ found)) := by rw [hf]; exact List.mem_cons_self
          obtain ⟨q1, q2⟩ := List.mem_filter.mp hs0
          obtain ⟨t, ht, rfl⟩ := List.mem_map.mp q1
          have ht : t < m + 1 := List.mem_range.mp ht
          repeat refine Go.h ?_
          refine go_append (by simp; have := nm.len; omega) (str_snoc _ _) ?_
          repeat refine Go.h ?_
          exact hC _ _ ⟨O4, _, _, _, _, _, _, _, rfl, rfl, pt, nm.snoc (of_decide_eq_true q2) (cand_ok ok (by omega)) (cand_low low (by omega))⟩
      · repeat refine Go.h ?_
        refine go_append (by simp; have := nm.len; omega) (str_snoc _ _) ?_
        repeat refine Go.h ?_
        exact hC _ _ ⟨O4, found ++ [name], _, _, _, _, _, _, rfl, rfl, pt, nm.snoc hm ok low⟩
end Dl
namespace Dl
open PySem PySem.Spec PyProof.Rows L2
theorem NamesD.perm {xs ys : List Str} {m : Nat} (h : NamesD xs m) (p : ys.Perm xs) : NamesD ys m := ⟨p.nodup_iff.mpr h.nd, fun s hs => h.ok s (p.mem_iff.mp hs), p.length_eq.trans h.len, fun s hs => h.low s (p.mem_iff.mp hs)⟩
/-- ways that come together again -/
theorem join_st {s : DSt} {f b c : Gm → Oh → Prop} {r : DK} {xe : DX} {Γ : Gm} {O : Oh} (J : Gm → Oh → Prop) (h2 : ∀ C : Gm → Oh → Prop, (∀ Γ' O', J Γ' O' → C Γ' O') → s ⟨C, r, b, c⟩ xe Γ O) (h1 : ∀ Γ' O', J Γ' O' → f Γ' O') : s ⟨f, r, b, c⟩ xe Γ O := h2 f h1
end Dl
namespace Dl
open PySem PySem.Spec PyProof.Rows L2
/-! ### the pot -/
abbrev scr (ns : List Int) : PyData := .dict [(.none, .list (ns.map PyData.int))]
instance {O : Oh} {ns : List Int} : Fz (.d (.dict [(.none, .list (ns.map PyData.int))])) O (ns.map PyData.int) := ⟨rfl, rfl⟩
theorem sp_pot {ns : List Int} {k : Nat} (hk : k < 1000) {O : Oh} {R : DK} {xe : Exn → Oh → Prop} (h : ∀ x y, PotOk x y → R (.c O.length) (O ++ [potC x y])) : w__law_pot [.d (scr ns), .d (.int k)] O R xe := by
  refine def_startC rfl fun n l cl => ?_
  obtain rfl : O.length = n := l.e
  repeat (fail_if_success with_reducible show dIf _ _ _ _ _ _ _); refine Go.h ?_
  refine join_st (fun Γ' S => ∃ x : Int, Γ' = [some (.d (scr ns)), some (.d (.int k)), some (.d (.int x))] ∧ S = O ++ []) ?_ ?_
  · intro C hC
    repeat refine Go.h ?_
    refine dcase (fun z => ?_) (fun z => ?_)
    · simp at z
      repeat refine Go.h ?_
      refine go_ix (d := .int (ns[k]'(by omega))) (atI_map (by simp)) ?_
      repeat refine Go.h ?_
      exact hC _ _ ⟨_, rfl, rfl⟩
    · repeat refine Go.h ?_
      exact hC _ _ ⟨_, rfl, rfl⟩
  · rintro Γ S ⟨x, rfl, rfl⟩
    repeat refine Go.h ?_
    refine ⟨⟨by decide, by decide, by decide⟩, ?_⟩
    repeat refine Go.h ?_
    refine ⟨by decide, ?_⟩
    repeat refine Go.h ?_
    refine ⟨.inl ⟨by decide, by decide⟩, ?_⟩
    repeat refine Go.h ?_
    refine h _ _ ⟨?_, ?_, ?_⟩
    · split <;> omega
    · have : 0 ≤ (if x < 0 then -x else x) % 2147483587 := Int.emod_nonneg _ (by decide)
      omega
    · have : (if x < 0 then -x else x) % 2147483587 < 2147483587 := Int.emod_lt_of_pos _ (by decide)
      omega
/-! ### try -/
def kEx (f : Gm → Oh → Prop) (i : Nat) : Gm → Oh → Prop := fun Γ1 O1 => f (Γ1.set i none) O1
instance {f : Gm → Oh → Prop} {i : Nat} {Γ Γ' : Gm} {O : Oh} [p : Put Γ i none Γ'] : Go (kEx f i Γ O) (f Γ' O) := ⟨fun h => by unfold kEx; rw [p.e]; exact h⟩
theorem eqvAll_refl {n : Nat} (h : ∀ d, shp n d = true → PyData.eqv d d = true) : ∀ ds : List PyData, ds.all (shp n) = true → PyData.eqvAll ds ds = true
  | [], _ => by simp [PyData.eqvAll]
  | d :: r, e => by
    rw [List.all_cons, Bool.and_eq_true] at e
    simp only [PyData.eqvAll, h d e.1, eqvAll_refl h r e.2, Bool.and_self]
theorem eqv_refl : ∀ (n : Nat) (d : PyData), shp n d = true → PyData.eqv d d = true
  | n, .none, _ => rfl
  | n, .bool b, _ => by cases b <;> rfl
  | n, .int i, _ => by rw [eqv_int]; simp
  | n, .str s, _ => by rw [eqv_str]; simp
  | 0, .list ds, h | 0, .tuple ds, h => by cases h
  | n + 1, .list ds, h => by simp only [PyData.eqv]; exact eqvAll_refl (eqv_refl n) ds h
  | n + 1, .tuple ds, h => by simp only [PyData.eqv]; exact eqvAll_refl (eqv_refl n) ds h
  | 0, .dict _, h | _ + 1, .dict _, h => by cases h
theorem go_neSame {d : PyData} {O : Oh} {R : DK} (hs : shp 40 d = true) (h : R (.d (.bool false)) O) : dNe (.d d) (.d d) O R := by
  refine ⟨hs, hs, ?_⟩
  rw [eqv_refl 40 d hs]
  exact h
end Dl
namespace Dl
open PySem PySem.Spec PyProof.Rows L2
def w__law_kinds : DFn := dDef 3 1 (
  (dSeq (dAsg (dLst (dCons (dIsO ["NoName", "NoKind", "NoParents", "Taken", "InUse", "NoEntry", "NoThing", "NoNumber", "NotAbove", "Shut", "NoText", "NoRow", "Ring", "Round", "Missing", "Endless"] (fun nm => nm == "NoName") (dVar 0)) (dCons (dIsO ["NoName", "NoKind", "NoParents", "Taken", "InUse", "NoEntry", "NoThing", "NoNumber", "NotAbove", "Shut", "NoText", "NoRow", "Ring", "Round", "Missing", "Endless"] (fun nm => nm == "NoKind") (dVar 0)) (dCons (dIsO ["NoName", "NoKind", "NoParents", "Taken", "InUse", "NoEntry", "NoThing", "NoNumber", "NotAbove", "Shut", "NoText", "NoRow", "Ring", "Round", "Missing", "Endless"] (fun nm => nm == "NoParents") (dVar 0)) (dCons (dIsO ["NoName", "NoKind", "NoParents", "Taken", "InUse", "NoEntry", "NoThing", "NoNumber", "NotAbove", "Shut", "NoText", "NoRow", "Ring", "Round", "Missing", "Endless"] (fun nm => nm == "Taken") (dVar 0)) dNil))))) (.nm 1))
  (dSeq (dAsg (dOp dAdd (dVar 1) (dLst (dCons (dIsO ["NoName", "NoKind", "NoParents", "Taken", "InUse", "NoEntry", "NoThing", "NoNumber", "NotAbove", "Shut", "NoText", "NoRow", "Ring", "Round", "Missing", "Endless"] (fun nm => nm == "InUse") (dVar 0)) (dCons (dIsO ["NoName", "NoKind", "NoParents", "Taken", "InUse", "NoEntry", "NoThing", "NoNumber", "NotAbove", "Shut", "NoText", "NoRow", "Ring", "Round", "Missing", "Endless"] (fun nm => nm == "NoEntry") (dVar 0)) (dCons (dIsO ["NoName", "NoKind", "NoParents", "Taken", "InUse", "NoEntry", "NoThing", "NoNumber", "NotAbove", "Shut", "NoText", "NoRow", "Ring", "Round", "Missing", "Endless"] (fun nm => nm == "NoThing") (dVar 0)) (dCons (dIsO ["NoName", "NoKind", "NoParents", "Taken", "InUse", "NoEntry", "NoThing", "NoNumber", "NotAbove", "Shut", "NoText", "NoRow", "Ring", "Round", "Missing", "Endless"] (fun nm => nm == "NoNumber") (dVar 0)) dNil)))))) (.nm 1))
  (dSeq (dAsg (dOp dAdd (dVar 1) (dLst (dCons (dIsO ["NoName", "NoKind", "NoParents", "Taken", "InUse", "NoEntry", "NoThing", "NoNumber", "NotAbove", "Shut", "NoText", "NoRow", "Ring", "Round", "Missing", "Endless"] (fun nm => nm == "NotAbove") (dVar 0)) (dCons (dIsO ["NoName", "NoKind", "NoParents", "Taken", "InUse", "NoEntry", "NoThing", "NoNumber", "NotAbove", "Shut", "NoText", "NoRow", "Ring", "Round", "Missing", "Endless"] (fun nm => nm == "Shut") (dVar 0)) (dCons (dIsO ["NoName", "NoKind", "NoParents", "Taken", "InUse", "NoEntry", "NoThing", "NoNumber", "NotAbove", "Shut", "NoText", "NoRow", "Ring", "Round", "Missing", "Endless"] (fun nm => nm == "NoText") (dVar 0)) (dCons (dIsO ["NoName", "NoKind", "NoParents", "Taken", "InUse", "NoEntry", "NoThing", "NoNumber", "NotAbove", "Shut", "NoText", "NoRow", "Ring", "Round", "Missing", "Endless"] (fun nm => nm == "NoRow") (dVar 0)) dNil)))))) (.nm 1))
  (dSeq (dAsg (dOp dAdd (dVar 1) (dLst (dCons (dIsO ["NoName", "NoKind", "NoParents", "Taken", "InUse", "NoEntry", "NoThing", "NoNumber", "NotAbove", "Shut", "NoText", "NoRow", "Ring", "Round", "Missing", "Endless"] (fun nm => nm == "Ring") (dVar 0)) (dCons (dIsO ["NoName", "NoKind", "NoParents", "Taken", "InUse", "NoEntry", "NoThing", "NoNumber", "NotAbove", "Shut", "NoText", "NoRow", "Ring", "Round", "Missing", "Endless"] (fun nm => nm == "Round") (dVar 0)) (dCons (dIsO ["NoName", "NoKind", "NoParents", "Taken", "InUse", "NoEntry", "NoThing", "NoNumber", "NotAbove", "Shut", "NoText", "NoRow", "Ring", "Round", "Missing", "Endless"] (fun nm => nm == "Missing") (dVar 0)) (dCons (dIsO ["NoName", "NoKind", "NoParents", "Taken", "InUse", "NoEntry", "NoThing", "NoNumber", "NotAbove", "Shut", "NoText", "NoRow", "Ring", "Round", "Missing", "Endless"] (fun nm => nm == "Endless") (dVar 0)) dNil)))))) (.nm 1))
  (dRet (dLc (dRng1 (dCons (dC (.int 16)) dNil)) (.nm 2) (dB (dOp dIx2 (dVar 1) (dVar 2))) (dVar 2) [2])))))))
def w_law : DFn := dDef 6 1 (
  (dSeq (dAsg (dCall0 w__law_names (dCons (dCall0 w__law_pot (dCons (dVar 0) (dCons (dC (.int 0)) dNil))) (dCons (dC (.int 2)) dNil))) (.nm 1))
  (dSeq (dAsg (dTup (dCons (dTup (dCons (dC (.int 0)) (dCons (dOp dIx2 (dVar 1) (dC (.int 0))) (dCons (dOp dIx2 (dVar 1) (dC (.int 1))) dNil)))) (dCons (dTup (dCons (dC (.int 1)) (dCons (dOp dIx2 (dVar 1) (dC (.int 1))) (dCons (dOp dIx2 (dVar 1) (dC (.int 0))) dNil)))) dNil))) (.nm 2))
  (dSeq (dAsg (dLstC (dCons (dNew0 "NoName") (dCons (dNew0 "NoKind") (dCons (dNew0 "NoParents") (dCons (dNew0 "Taken") (dCons (dNew0 "InUse") (dCons (dNew0 "NoEntry") (dCons (dNew0 "NoThing") dNil)))))))) (.nm 3))
  (dSeq (dAsg (dOp dAddC (dVar 3) (dLstC (dCons (dNew0 "NoNumber") (dCons (dNew0 "NotAbove") (dCons (dNew0 "Shut") (dCons (dNew0 "NoText") (dCons (dNew0 "NoRow") (dCons (dNewF "Ring" ["kind", "ring"] (dCons (dOp dIx2 (dVar 1) (dC (.int 0))) (dCons (dVar 2) dNil))) dNil)))))))) (.nm 3))
  (dSeq (dAsg (dOp dAddC (dVar 3) (dLstC (dCons (dNewF "Round" ["way"] (dCons (dCB dTupOf (dCons (dVar 1) dNil)) dNil)) (dCons (dNewF "Missing" ["name"] (dCons (dOp dIx2 (dVar 1) (dC (.int 1))) dNil)) (dCons (dNewF "Endless" ["names"] (dCons (dCB dTupOf (dCons (dVar 1) dNil)) dNil)) dNil))))) (.nm 3))
  (dSeq (dFor (dEnumC (dCons (dVar 3) dNil)) (.tup [(.nm 4), (.nm 5)])
   (dIf (dOr (dB (dOp dNe (dCall0 w__law_kinds (dCons (dVar 5) dNil)) (dLst (dCons (dVar 4) dNil)))) (dOr (dNot (dB (dIsO ["NoName", "NoKind", "NoParents", "Taken", "InUse", "NoEntry", "NoThing", "NoNumber", "NotAbove", "Shut", "NoText", "NoRow", "Ring", "Round", "Missing", "Endless"] (fun _ => true) (dVar 5)))) (dNot (dB (dIsO ["NoName", "NoKind", "NoParents", "Taken", "InUse", "NoEntry", "NoThing", "NoNumber", "NotAbove", "Shut", "NoText", "NoRow", "Ring", "Round", "Missing", "Endless"] (fun _ => true) (dVar 5))))))
    (dRet (dC (.bool false)))
    dNext))
  (dSeq (dIf (dOr (dB (dOp dNe (dXfO "Ring" "kind" (dOp dIx2 (dVar 3) (dC (.int 12)))) (dOp dIx2 (dVar 1) (dC (.int 0))))) (dOr (dB (dOp dNe (dXfO "Ring" "ring" (dOp dIx2 (dVar 3) (dC (.int 12)))) (dVar 2))) (dB (dOp dNe (dXfO "Round" "way" (dOp dIx2 (dVar 3) (dC (.int 13)))) (dCB dTupOf (dCons (dVar 1) dNil))))))
   (dRet (dC (.bool false)))
   dNext)
  (dRet (dAndV (dOp dEq (dXfO "Missing" "name" (dOp dIx2 (dVar 3) (dC (.int 14)))) (dOp dIx2 (dVar 1) (dC (.int 1)))) (dOp dEq (dXfO "Endless" "names" (dOp dIx2 (dVar 3) (dC (.int 15)))) (dCB dTupOf (dCons (dVar 1) dNil)))))))))))))
end Dl
namespace Dl
open PySem PySem.Spec PyProof.Rows L2
/-! ### membership of a text, where something else may stand -/
instance {s : Str} {y : W} {xs : List Str} {O : Oh} {R : DK} [q : SeqS y O xs] : Go (dNiL (.d (.str s)) y O R) (R (.d (.bool (decide (s ∉ xs)))) O) := ⟨fun h => show dIn2 true (.d (.str s)) y O R from go_inS (by rw [if_pos rfl, ← decide_not]; exact h)⟩
instance {s : Str} {y : W} {xs : List Str} {O : Oh} {R : DK} [q : SeqS y O xs] : Go (dInL (.d (.str s)) y O R) (R (.d (.bool (decide (s ∈ xs)))) O) := ⟨fun h => show dIn2 false (.d (.str s)) y O R from go_inS h⟩
theorem go_niOS {s : Str} {xs : List Str} {O : Oh} {R : DK} (h : R (.d (.bool (decide (s ∉ xs)))) O) : dNiO (.d (.str s)) (.d (tS xs)) O R := by
  refine ⟨?_, ?_⟩
  · rw [List.all_eq_true]
    intro d hd
    obtain ⟨t, _, rfl⟩ := List.mem_map.mp hd
    rfl
  · have e : ((sD xs).any fun z => PyData.eqv z (.str s)) = decide (s ∈ xs) := any_sD xs s
    rw [e, ← decide_not]
    exact h
instance {s : Str} {xs : List Str} {O : Oh} {R : DK} : Go (dNiO (.d (.str s)) (.d (tS xs)) O R) (R (.d (.bool (decide (s ∉ xs)))) O) := ⟨go_niOS⟩
end Dl
namespace Dl
open PySem PySem.Spec PyProof.Rows L2
/-! ### what is handled, gone through -/
def kIsX (nm D : Str) (q : Addr) (d : Option Addr) (R : DK) : DK := fun x O1 => match x with
  | .o b d' fs => b = q ∧ d' = d ∧ R (.d (.bool (nm == D))) O1
  | _ => False
instance {nm D : Str} {q : Addr} {d : Option Addr} {we : DEx} {Γ : Gm} {O : Oh} {R : DK} {xe : DX} : Go (dIsX nm D q d we Γ O R xe) (we Γ O (kIsX nm D q d R) xe) := ⟨fun h => h⟩
instance {nm D : Str} {q : Addr} {d : Option Addr} {fs : List (Str × PyData)} {O : Oh} {R : DK} : Go (kIsX nm D q d R (.o q d fs) O) (R (.d (.bool (nm == D))) O) := ⟨fun h => ⟨rfl, rfl, h⟩⟩
def kIsXT (nm : Str) (Ds : List Str) (q : Addr) (d : Option Addr) (R : DK) : DK := fun x O1 => match x with
  | .o b d' fs => b = q ∧ d' = d ∧ R (.d (.bool (Ds.contains nm))) O1
  | _ => False
instance {nm : Str} {Ds : List Str} {q : Addr} {d : Option Addr} {we : DEx} {Γ : Gm} {O : Oh} {R : DK} {xe : DX} : Go (dIsXT nm Ds q d we Γ O R xe) (we Γ O (kIsXT nm Ds q d R) xe) := ⟨fun h => h⟩
instance {nm : Str} {Ds : List Str} {q : Addr} {d : Option Addr} {fs : List (Str × PyData)} {O : Oh} {R : DK} : Go (kIsXT nm Ds q d R (.o q d fs) O) (R (.d (.bool (Ds.contains nm))) O) := ⟨fun h => ⟨rfl, rfl, h⟩⟩
def kIsV (q : Addr) (d : Option Addr) (R : DK) : DK := fun x O1 => match x with
  | .o b d' fs => b = q ∧ d' = d ∧ R (.d (.bool true)) O1
  | _ => False
instance {q : Addr} {d : Option Addr} {we : DEx} {Γ : Gm} {O : Oh} {R : DK} {xe : DX} : Go (dIsV q d we Γ O R xe) (we Γ O (kIsV q d R) xe) := ⟨fun h => h⟩
instance {q : Addr} {d : Option Addr} {fs : List (Str × PyData)} {O : Oh} {R : DK} : Go (kIsV q d R (.o q d fs) O) (R (.d (.bool true)) O) := ⟨fun h => ⟨rfl, rfl, h⟩⟩
/-! #### texts cut, places of lists -/
/-! #### tries of several clauses -/
instance {hs : List HK} {tb te : DSt} {D : DEnds} {xe : DX} {Γ : Gm} {O : Oh} : Go (dTryK hs tb te D xe Γ O) (tb { D with nx := te D xe } (dHs hs D xe) Γ O) := ⟨fun h => h⟩
instance {i : Nat} {Γ Γ' : Gm} {D : DEnds} {O : Oh} [p : Put Γ i none Γ'] : Go ((endsK (some i) D).nx Γ O) (D.nx Γ' O) := ⟨fun h => by show D.nx (Γ.set i none) O; rw [p.e]; exact h⟩
instance {Γ : Gm} {D : DEnds} {O : Oh} : Go ((endsK none D).nx Γ O) (D.nx Γ O) := ⟨fun h => h⟩
/-! #### zip of lists, filtered -/
theorem go_addC2 {x y : W} {O O' : Oh} {R : DK} {j : Nat} {xs ys ws : List W} [a : AsL x O xs] [b : AsL y O ys] (hz : xs.length + ys.length ≤ 1000000) (e : xs ++ ys = ws) [n : Nw O (.lst ws) j O'] (h : R (.c j) O') : dAddC x y O R := by
  unfold dAddC; rw [a.e, b.e]; dsimp only; rw [e, n.e.1, n.e.2]; exact ⟨hz, h⟩
def kZipL (S : List W → (Oh → Prop) → Oh → Prop) : List W → Oh → Prop := fun xs O1 => match xs with
  | [x, y] => match snapW x O1, snapW y O1 with
    | some (ds, ok), some (es, ok') => S (zipW ds es) (fun O => ok O ∧ ok' O) O1
    | _, _ => False
  | _ => False
instance {ws : DA} {Γ : Gm} {O : Oh} {S : List W → (Oh → Prop) → Oh → Prop} {xe : DX} : Go (dZipL ws Γ O S xe) (ws Γ O (kZipL S) xe) := ⟨fun h => h⟩
end Dl
namespace Dl
open PySem PySem.Spec PyProof.Rows L2
/-! ### the law's own merging -/
theorem sp_boolsAny {ds : List PyData} {bs : List Bool} {O : Oh} {R : DK} [b : BoolsD ds bs] (h : R (.d (.bool (bs.any id))) O) : dAny [.d (.list ds)] O R := by
  unfold dAny; dsimp only; rw [b.e]; exact h
instance {ds : List PyData} {bs : List Bool} {O : Oh} {R : DK} [b : BoolsD ds bs] : Go (dAny [.d (.list ds)] O R) (R (.d (.bool (bs.any id))) O) := ⟨sp_boolsAny⟩
def hd (r : List Str) : Str := r.headD ""
def sizeR (rows : List (List Str)) : Nat := (rows.map List.length).sum
end Dl
namespace Dl
open PySem PySem.Spec PyProof.Rows L2
/-! ### lines -/
theorem go_addD {O : Oh} {R : DK} {xs ys : List PyData} (hz : xs.length + ys.length ≤ 1000000) (h : R (.d (.list (xs ++ ys))) O) : dAdd (.d (.list xs)) (.d (.list ys)) O R := ⟨hz, h⟩
theorem GoodR.size {rs : List (List Str)} (g : GoodR rs) : sizeR rs ≤ 48 := by
  have := g.flat
  rw [List.length_flatten] at this
  exact this
theorem GoodR.names {rs : List (List Str)} (g : GoodR rs) : (namesOf rs).length ≤ sizeR rs := by
  have : (namesOf rs).length ≤ rs.flatten.length := met_len _
  rw [List.length_flatten] at this
  exact this
end Dl
namespace Dl
open PySem PySem.Spec PyProof.Rows L2
/-! ### k15: refusals that are made -/
instance {Γ : Gm} {O O' : Oh} {R : DK} {xe : DX} {nm : Str} {j : Nat} [n : Nw O (.exn nm []) j O'] : Go (dNew0 nm Γ O R xe) (R (.c j) O') := ⟨fun h => by unfold dNew0; rw [n.e.1, n.e.2]; exact h⟩
def kNewF (nm : Str) (fs : List Str) (R : DK) : List W → Oh → Prop := fun vs O1 => match datas vs with
  | some ds => ds.length = fs.length ∧ R (.c O1.length) (O1 ++ [.exn nm (fs.zip ds).reverse])
  | none => False
instance {Γ : Gm} {O : Oh} {R : DK} {xe : DX} {nm : Str} {fs : List Str} {ws : DA} : Go (dNewF nm fs ws Γ O R xe) (ws Γ O (kNewF nm fs R) xe) := ⟨fun h => h⟩
theorem go_newF1 {O O' : Oh} {R : DK} {nm f : Str} {x : PyData} {j : Nat} [n : Nw O (.exn nm [(f, x)]) j O'] (h : R (.c j) O') : kNewF nm [f] R [.d x] O := by
  show 1 = 1 ∧ R (.c O.length) (O ++ [.exn nm [(f, x)]])
  rw [n.e.1, n.e.2]; exact ⟨rfl, h⟩
instance {O O' : Oh} {R : DK} {nm f : Str} {x : PyData} {j : Nat} [n : Nw O (.exn nm [(f, x)]) j O'] : Go (kNewF nm [f] R [.d x] O) (R (.c j) O') := ⟨go_newF1⟩
theorem go_newF2 {O O' : Oh} {R : DK} {nm f g : Str} {x y : PyData} {j : Nat} [n : Nw O (.exn nm [(g, y), (f, x)]) j O'] (h : R (.c j) O') : kNewF nm [f, g] R [.d x, .d y] O := by
  show 2 = 2 ∧ R (.c O.length) (O ++ [.exn nm [(g, y), (f, x)]])
  rw [n.e.1, n.e.2]; exact ⟨rfl, h⟩
instance {O O' : Oh} {R : DK} {nm f g : Str} {x y : PyData} {j : Nat} [n : Nw O (.exn nm [(g, y), (f, x)]) j O'] : Go (kNewF nm [f, g] R [.d x, .d y] O) (R (.c j) O') := ⟨go_newF2⟩
def kIsO (cs : List Str) (f : Str → Bool) (R : DK) : DK := fun x O1 => match x with
  | .c j => (match O1[j]? with
    | some (.exn nm fs) => nm ∈ cs ∧ R (.d (.bool (f nm))) O1
    | _ => False)
  | _ => False
instance {cs : List Str} {f : Str → Bool} {we : DEx} {Γ : Gm} {O : Oh} {R : DK} {xe : DX} : Go (dIsO cs f we Γ O R xe) (we Γ O (kIsO cs f R) xe) := ⟨fun h => h⟩
theorem go_isO {cs : List Str} {f : Str → Bool} {R : DK} {j : Nat} {O : Oh} {nm : Str} {fs : List (Str × PyData)} (g : O[j]? = some (.exn nm fs)) (hn : nm ∈ cs) (h : R (.d (.bool (f nm))) O) : kIsO cs f R (.c j) O := by
  unfold kIsO; dsimp only; rw [g]; exact ⟨hn, h⟩
def kXfO (C0 f : Str) (R : DK) : DK := fun x O1 => match x with
  | .c j => (match O1[j]? with
    | some (.exn nm fs) => nm = C0 ∧ (match fs.lookup f with
      | some y => R (.d y) O1
      | none => False)
    | _ => False)
  | _ => False
instance {C0 f : Str} {we : DEx} {Γ : Gm} {O : Oh} {R : DK} {xe : DX} : Go (dXfO C0 f we Γ O R xe) (we Γ O (kXfO C0 f R) xe) := ⟨fun h => h⟩
class Lk (fs : List (Str × PyData)) (f : Str) (y : outParam PyData) : Prop where
  e : fs.lookup f = some y
instance {C0 f : Str} {R : DK} {j : Nat} {O : Oh} {fs : List (Str × PyData)} {y : PyData} [g : Cl O j (.exn C0 fs)] [l : Lk fs f y] : Go (kXfO C0 f R (.c j) O) (R (.d y) O) := ⟨fun h => by unfold kXfO; dsimp only; rw [g.e]; dsimp only; rw [l.e]; exact ⟨rfl, h⟩⟩
abbrev cs15 : List Str := ["NoName", "NoKind", "NoParents", "Taken", "InUse", "NoEntry", "NoThing", "NoNumber", "NotAbove", "Shut", "NoText", "NoRow", "Ring", "Round", "Missing", "Endless"]
def bl15 (nm : Str) : List Bool := cs15.map fun s => nm == s
def ksU (nm : Str) (m : Nat) : List PyData := ((List.range m).filter fun k => (bl15 nm)[k]?.getD false).map fun k => .int (k : Nat)
abbrev ks15 (nm : Str) : List PyData := ksU nm 16
theorem ksU_succ (nm : Str) (m : Nat) : ksU nm (m + 1) = ksU nm m ++ (if (bl15 nm)[m]?.getD false = true then [.int (m : Nat)] else []) := by
  unfold ksU
  rw [List.range_succ, List.filter_append, List.map_append]
  congr 1
  by_cases h : (bl15 nm)[m]?.getD false = true
  · rw [if_pos h, List.filter_cons, if_pos h]; rfl
  · rw [if_neg h, List.filter_cons, if_neg h]; rfl
theorem ksU_len (nm : Str) (m : Nat) : (ksU nm m).length ≤ m := by
  unfold ksU
  rw [List.length_map]
  exact Nat.le_trans (List.length_filter_le _ _) (by simp)
theorem bl15_len (nm : Str) : (bl15 nm).length = 16 := rfl
theorem sp_kinds {O : Oh} {j : Nat} {nm : Str} {fs : List (Str × PyData)} (g : O[j]? = some (.exn nm fs)) (hn : nm ∈ cs15) {R : DK} {xe : Exn → Oh → Prop} (h : R (.d (.list (ks15 nm))) O) : w__law_kinds [.c j] O R xe := by
  refine def_start rfl fun n l cl => ?_
  have g' : (O ++ [])[j]? = some (.exn nm fs) := by rw [List.append_nil]; exact g
  repeat first | refine Go.h ?_ | refine go_isO g' hn ?_
  refine go_addD (by simp) ?_
  repeat first | refine Go.h ?_ | refine go_isO g' hn ?_
  refine go_addD (by simp) ?_
  repeat first | refine Go.h ?_ | refine go_isO g' hn ?_
  refine go_addD (by simp) ?_
  repeat first | refine Go.h ?_ | refine go_isO g' hn ?_
  refine go_rng (n := 16) (by omega) ?_
  repeat refine Go.h ?_
  refine lc_rng (fun k acc S => acc = ksU nm k ∧ S = O ++ []) ⟨rfl, rfl⟩ ?_ ?_
  · rintro acc S ⟨rfl, rfl⟩
    repeat refine Go.h ?_
    exact h
  · rintro k acc S hk ⟨rfl, rfl⟩ C N hC hN
    repeat refine Go.h ?_
    have hb : (bl15 nm)[k]?.getD false = (bl15 nm)[k]'(by rw [bl15_len]; exact hk) := by rw [List.getElem?_eq_getElem (by rw [bl15_len]; exact hk)]; rfl
    have at_ : atI (List.map W.d ((bl15 nm).map PyData.bool)) (k : Nat) = some (.d (.bool ((bl15 nm)[k]?.getD false))) := by
      refine atI_nat ?_
      rw [hb, List.getElem?_map, List.getElem?_map, List.getElem?_eq_getElem (by rw [bl15_len]; exact hk)]
      rfl
    refine go_ix (d := .bool ((bl15 nm)[k]?.getD false)) at_ ?_
    repeat refine Go.h ?_
    by_cases z : (bl15 nm)[k]?.getD false = true
    · rw [z]
      repeat refine Go.h ?_
      refine hC _ _ (Nat.lt_of_le_of_lt (ksU_len nm k) (by omega)) ⟨?_, rfl⟩
      rw [ksU_succ, if_pos z]
    · rw [Bool.eq_false_iff.mpr z]
      repeat refine Go.h ?_
      refine hN _ ⟨?_, rfl⟩
      rw [ksU_succ, if_neg z, List.append_nil]
/-- each class tells itself alone -/
theorem ks15_at : ∀ (k : Nat) (nm : Str), cs15[k]? = some nm → ks15 nm = [.int (k : Nat)] := by
  intro k nm h
  have hk : k < 16 := (List.getElem?_eq_some_iff.mp h).1
  rw [List.getElem?_eq_getElem hk] at h
  cases h
  have e : ∀ k, k < 16 → ∀ h : k < cs15.length, ks15 cs15[k] = [.int (k : Nat)] := by
    intro k hk h
    iterate 16 (rcases k with _ | k; exact rfl)
    omega
  exact e k hk hk
instance {α : Type} {a0 a1 a2 a3 a4 a5 a6 a7 a8 : α} : Cnt ([a0, a1, a2, a3, a4, a5, a6, a7, a8] : List α) 9 := ⟨rfl⟩
instance {α : Type} {a0 a1 a2 a3 a4 a5 a6 a7 a8 : α} : Sz ([a0, a1, a2, a3, a4, a5, a6, a7, a8] : List α) := ⟨Nat.le_of_ble_eq_true rfl⟩
instance {α : Type} {a0 a1 a2 a3 a4 a5 a6 a7 a8 a9 : α} : Cnt ([a0, a1, a2, a3, a4, a5, a6, a7, a8, a9] : List α) 10 := ⟨rfl⟩
instance {α : Type} {a0 a1 a2 a3 a4 a5 a6 a7 a8 a9 : α} : Sz ([a0, a1, a2, a3, a4, a5, a6, a7, a8, a9] : List α) := ⟨Nat.le_of_ble_eq_true rfl⟩
instance {α : Type} {a0 a1 a2 a3 a4 a5 a6 a7 a8 a9 a10 : α} : Cnt ([a0, a1, a2, a3, a4, a5, a6, a7, a8, a9, a10] : List α) 11 := ⟨rfl⟩
instance {α : Type} {a0 a1 a2 a3 a4 a5 a6 a7 a8 a9 a10 : α} : Sz ([a0, a1, a2, a3, a4, a5, a6, a7, a8, a9, a10] : List α) := ⟨Nat.le_of_ble_eq_true rfl⟩
instance {α : Type} {a0 a1 a2 a3 a4 a5 a6 a7 a8 a9 a10 a11 : α} : Cnt ([a0, a1, a2, a3, a4, a5, a6, a7, a8, a9, a10, a11] : List α) 12 := ⟨rfl⟩
instance {α : Type} {a0 a1 a2 a3 a4 a5 a6 a7 a8 a9 a10 a11 : α} : Sz ([a0, a1, a2, a3, a4, a5, a6, a7, a8, a9, a10, a11] : List α) := ⟨Nat.le_of_ble_eq_true rfl⟩
instance {α : Type} {a0 a1 a2 a3 a4 a5 a6 a7 a8 a9 a10 a11 a12 : α} : Cnt ([a0, a1, a2, a3, a4, a5, a6, a7, a8, a9, a10, a11, a12] : List α) 13 := ⟨rfl⟩
instance {α : Type} {a0 a1 a2 a3 a4 a5 a6 a7 a8 a9 a10 a11 a12 : α} : Sz ([a0, a1, a2, a3, a4, a5, a6, a7, a8, a9, a10, a11, a12] : List α) := ⟨Nat.le_of_ble_eq_true rfl⟩
instance {α : Type} {a0 a1 a2 a3 a4 a5 a6 a7 a8 a9 a10 a11 a12 a13 : α} : Cnt ([a0, a1, a2, a3, a4, a5, a6, a7, a8, a9, a10, a11, a12, a13] : List α) 14 := ⟨rfl⟩
instance {α : Type} {a0 a1 a2 a3 a4 a5 a6 a7 a8 a9 a10 a11 a12 a13 : α} : Sz ([a0, a1, a2, a3, a4, a5, a6, a7, a8, a9, a10, a11, a12, a13] : List α) := ⟨Nat.le_of_ble_eq_true rfl⟩
instance {α : Type} {a0 a1 a2 a3 a4 a5 a6 a7 a8 a9 a10 a11 a12 a13 a14 : α} : Cnt ([a0, a1, a2, a3, a4, a5, a6, a7, a8, a9, a10, a11, a12, a13, a14] : List α) 15 := ⟨rfl⟩
instance {α : Type} {a0 a1 a2 a3 a4 a5 a6 a7 a8 a9 a10 a11 a12 a13 a14 : α} : Sz ([a0, a1, a2, a3, a4, a5, a6, a7, a8, a9, a10, a11, a12, a13, a14] : List α) := ⟨Nat.le_of_ble_eq_true rfl⟩
instance {α : Type} {a0 a1 a2 a3 a4 a5 a6 a7 a8 a9 a10 a11 a12 a13 a14 a15 : α} : Cnt ([a0, a1, a2, a3, a4, a5, a6, a7, a8, a9, a10, a11, a12, a13, a14, a15] : List α) 16 := ⟨rfl⟩
instance {α : Type} {a0 a1 a2 a3 a4 a5 a6 a7 a8 a9 a10 a11 a12 a13 a14 a15 : α} : Sz ([a0, a1, a2, a3, a4, a5, a6, a7, a8, a9, a10, a11, a12, a13, a14, a15] : List α) := ⟨Nat.le_of_ble_eq_true rfl⟩
instance {α : Type} {a0 a1 a2 a3 a4 a5 a6 a7 a8 a9 a10 a11 a12 a13 a14 a15 a16 : α} : Cnt ([a0, a1, a2, a3, a4, a5, a6, a7, a8, a9, a10, a11, a12, a13, a14, a15, a16] : List α) 17 := ⟨rfl⟩
instance {α : Type} {a0 a1 a2 a3 a4 a5 a6 a7 a8 a9 a10 a11 a12 a13 a14 a15 a16 : α} : Sz ([a0, a1, a2, a3, a4, a5, a6, a7, a8, a9, a10, a11, a12, a13, a14, a15, a16] : List α) := ⟨Nat.le_of_ble_eq_true rfl⟩
instance {α : Type} {a0 a1 a2 a3 a4 a5 a6 a7 a8 a9 a10 a11 a12 a13 a14 a15 a16 a17 : α} : Cnt ([a0, a1, a2, a3, a4, a5, a6, a7, a8, a9, a10, a11, a12, a13, a14, a15, a16, a17] : List α) 18 := ⟨rfl⟩
instance {α : Type} {a0 a1 a2 a3 a4 a5 a6 a7 a8 a9 a10 a11 a12 a13 a14 a15 a16 a17 : α} : Sz ([a0, a1, a2, a3, a4, a5, a6, a7, a8, a9, a10, a11, a12, a13, a14, a15, a16, a17] : List α) := ⟨Nat.le_of_ble_eq_true rfl⟩
instance {α : Type} {a0 a1 a2 a3 a4 a5 a6 a7 a8 a9 a10 a11 a12 a13 a14 a15 a16 a17 a18 : α} : Cnt ([a0, a1, a2, a3, a4, a5, a6, a7, a8, a9, a10, a11, a12, a13, a14, a15, a16, a17, a18] : List α) 19 := ⟨rfl⟩
instance {α : Type} {a0 a1 a2 a3 a4 a5 a6 a7 a8 a9 a10 a11 a12 a13 a14 a15 a16 a17 a18 : α} : Sz ([a0, a1, a2, a3, a4, a5, a6, a7, a8, a9, a10, a11, a12, a13, a14, a15, a16, a17, a18] : List α) := ⟨Nat.le_of_ble_eq_true rfl⟩
instance {α : Type} {a0 a1 a2 a3 a4 a5 a6 a7 a8 a9 a10 a11 a12 a13 a14 a15 a16 a17 a18 a19 : α} : Cnt ([a0, a1, a2, a3, a4, a5, a6, a7, a8, a9, a10, a11, a12, a13, a14, a15, a16, a17, a18, a19] : List α) 20 := ⟨rfl⟩
instance {α : Type} {a0 a1 a2 a3 a4 a5 a6 a7 a8 a9 a10 a11 a12 a13 a14 a15 a16 a17 a18 a19 : α} : Sz ([a0, a1, a2, a3, a4, a5, a6, a7, a8, a9, a10, a11, a12, a13, a14, a15, a16, a17, a18, a19] : List α) := ⟨Nat.le_of_ble_eq_true rfl⟩
instance {α : Type} {a0 a1 a2 a3 a4 a5 a6 a7 a8 a9 a10 a11 a12 a13 a14 a15 a16 a17 a18 a19 a20 : α} : Cnt ([a0, a1, a2, a3, a4, a5, a6, a7, a8, a9, a10, a11, a12, a13, a14, a15, a16, a17, a18, a19, a20] : List α) 21 := ⟨rfl⟩
instance {α : Type} {a0 a1 a2 a3 a4 a5 a6 a7 a8 a9 a10 a11 a12 a13 a14 a15 a16 a17 a18 a19 a20 : α} : Sz ([a0, a1, a2, a3, a4, a5, a6, a7, a8, a9, a10, a11, a12, a13, a14, a15, a16, a17, a18, a19, a20] : List α) := ⟨Nat.le_of_ble_eq_true rfl⟩
instance {α : Type} {a0 a1 a2 a3 a4 a5 a6 a7 a8 a9 a10 a11 a12 a13 a14 a15 a16 a17 a18 a19 a20 a21 : α} : Cnt ([a0, a1, a2, a3, a4, a5, a6, a7, a8, a9, a10, a11, a12, a13, a14, a15, a16, a17, a18, a19, a20, a21] : List α) 22 := ⟨rfl⟩
instance {α : Type} {a0 a1 a2 a3 a4 a5 a6 a7 a8 a9 a10 a11 a12 a13 a14 a15 a16 a17 a18 a19 a20 a21 : α} : Sz ([a0, a1, a2, a3, a4, a5, a6, a7, a8, a9, a10, a11, a12, a13, a14, a15, a16, a17, a18, a19, a20, a21] : List α) := ⟨Nat.le_of_ble_eq_true rfl⟩
instance {α : Type} {a0 a1 a2 a3 a4 a5 a6 a7 a8 a9 a10 a11 a12 a13 a14 a15 a16 a17 a18 a19 a20 a21 a22 : α} : Cnt ([a0, a1, a2, a3, a4, a5, a6, a7, a8, a9, a10, a11, a12, a13, a14, a15, a16, a17, a18, a19, a20, a21, a22] : List α) 23 := ⟨rfl⟩
instance {α : Type} {a0 a1 a2 a3 a4 a5 a6 a7 a8 a9 a10 a11 a12 a13 a14 a15 a16 a17 a18 a19 a20 a21 a22 : α} : Sz ([a0, a1, a2, a3, a4, a5, a6, a7, a8, a9, a10, a11, a12, a13, a14, a15, a16, a17, a18, a19, a20, a21, a22] : List α) := ⟨Nat.le_of_ble_eq_true rfl⟩
instance {α : Type} {a0 a1 a2 a3 a4 a5 a6 a7 a8 a9 a10 a11 a12 a13 a14 a15 a16 a17 a18 a19 a20 a21 a22 a23 : α} : Cnt ([a0, a1, a2, a3, a4, a5, a6, a7, a8, a9, a10, a11, a12, a13, a14, a15, a16, a17, a18, a19, a20, a21, a22, a23] : List α) 24 := ⟨rfl⟩
instance {α : Type} {a0 a1 a2 a3 a4 a5 a6 a7 a8 a9 a10 a11 a12 a13 a14 a15 a16 a17 a18 a19 a20 a21 a22 a23 : α} : Sz ([a0, a1, a2, a3, a4, a5, a6, a7, a8, a9, a10, a11, a12, a13, a14, a15, a16, a17, a18, a19, a20, a21, a22, a23] : List α) := ⟨Nat.le_of_ble_eq_true rfl⟩
instance {α : Type} {a0 a1 a2 a3 a4 a5 a6 a7 a8 a9 a10 a11 a12 a13 a14 a15 a16 a17 a18 a19 a20 a21 a22 a23 a24 : α} : Cnt ([a0, a1, a2, a3, a4, a5, a6, a7, a8, a9, a10, a11, a12, a13, a14, a15, a16, a17, a18, a19, a20, a21, a22, a23, a24] : List α) 25 := ⟨rfl⟩
instance {α : Type} {a0 a1 a2 a3 a4 a5 a6 a7 a8 a9 a10 a11 a12 a13 a14 a15 a16 a17 a18 a19 a20 a21 a22 a23 a24 : α} : Sz ([a0, a1, a2, a3, a4, a5, a6, a7, a8, a9, a10, a11, a12, a13, a14, a15, a16, a17, a18, a19, a20, a21, a22, a23, a24] : List α) := ⟨Nat.le_of_ble_eq_true rfl⟩
instance {α : Type} {a0 a1 a2 a3 a4 a5 a6 a7 a8 a9 a10 a11 a12 a13 a14 a15 a16 a17 a18 a19 a20 a21 a22 a23 a24 a25 : α} : Cnt ([a0, a1, a2, a3, a4, a5, a6, a7, a8, a9, a10, a11, a12, a13, a14, a15, a16, a17, a18, a19, a20, a21, a22, a23, a24, a25] : List α) 26 := ⟨rfl⟩
instance {α : Type} {a0 a1 a2 a3 a4 a5 a6 a7 a8 a9 a10 a11 a12 a13 a14 a15 a16 a17 a18 a19 a20 a21 a22 a23 a24 a25 : α} : Sz ([a0, a1, a2, a3, a4, a5, a6, a7, a8, a9, a10, a11, a12, a13, a14, a15, a16, a17, a18, a19, a20, a21, a22, a23, a24, a25] : List α) := ⟨Nat.le_of_ble_eq_true rfl⟩
/-! ### the law -/
theorem go_eqSame {d : PyData} {O : Oh} {R : DK} (hs : shp 40 d = true) (h : R (.d (.bool true)) O) : dEq (.d d) (.d d) O R := by
  refine ⟨hs, hs, ?_⟩
  rw [eqv_refl 40 d hs]
  exact h
theorem for_enumC {f b c : Gm → Oh → Prop} {r : DK} {ok : Oh → Prop} {t : Tg} {body : DSt} {xe : DX} {k0 : Nat} {cs : List Nat} {Γ : Gm} {O : Oh} (I : Nat → List Nat → Gm → Oh → Prop) (h : I k0 cs Γ O)
    (h0 : ∀ k Γ O, I k [] Γ O → ok O ∧ f Γ O)
    (h1 : ∀ k x q Γ O, I k (x :: q) Γ O → ok O ∧ ∀ C : Gm → Oh → Prop, (∀ Γ' O', I (k + 1) q Γ' O' → C Γ' O') → t.put (.t [.inl (.int (k : Nat)), .inr x]) Γ fun Γ1 => body ⟨C, r, f, C⟩ xe Γ1 O) : forGo ok t body ⟨f, r, b, c⟩ xe (enumCW k0 cs) Γ O := by
  refine for_rule (fun q Γ O => ∃ k ys, q = enumCW k ys ∧ I k ys Γ O) ⟨k0, cs, rfl, h⟩ ?_ ?_
  · rintro Γ O ⟨k, ys, e, i⟩
    cases ys with
    | nil => exact h0 _ _ _ i
    | cons y ys => cases e
  · rintro x q Γ O ⟨k, ys, e, i⟩
    cases ys with
    | nil => cases e
    | cons y ys =>
      injection e with e1 e2
      subst e1 e2
      obtain ⟨a, z⟩ := h1 _ _ _ _ _ i
      exact ⟨a, fun C hC => z C fun Γ' O' i' => hC _ _ ⟨k + 1, ys, rfl, i'⟩⟩
def kEnumC (S : List W → (Oh → Prop) → Oh → Prop) : List W → Oh → Prop := fun xs O1 => match xs with
  | [.c j] => (match O1[j]? with
    | some (.lst ys) => (match csOf ys with
      | some cs => S (enumCW 0 cs) (fun O => O[j]? = some (.lst ys)) O1
      | none => False)
    | _ => False)
  | _ => False
instance {ws : DA} {Γ : Gm} {O : Oh} {S : List W → (Oh → Prop) → Oh → Prop} {xe : DX} : Go (dEnumC ws Γ O S xe) (ws Γ O (kEnumC S) xe) := ⟨fun h => h⟩
theorem go_enumC {S : List W → (Oh → Prop) → Oh → Prop} {j : Nat} {O : Oh} {cs : List Nat} (g : O[j]? = some (.lst (cs.map W.c))) (h : S (enumCW 0 cs) (fun O => O[j]? = some (.lst (cs.map W.c))) O) : kEnumC S [.c j] O := by
  unfold kEnumC
  dsimp only
  rw [g]
  dsimp only
  rw [csOf_map]
  exact h
instance {α : Type} {en : α → PyData} {a b : α} {l : List α} : Ix ((a :: b :: l).map en) 1 (en b) := ⟨atI_map (m := 1) rfl⟩
theorem draw15 {f : DFn} {args : List W} {Q : PyData → Prop} {B : Oh} {x y : Int} {R : DK} {xe : Exn → Oh → Prop} (d : Draws B.length f args Q) (ok : PotOk x y) (k : ∀ v x' y', Q v → PotOk x' y' → R (.d v) (B ++ [potC x' y'])) : f args (B ++ [potC x y]) R xe := by
  refine d _ _ _ ⟨x, y, by rw [List.getElem?_append_right (Nat.le_refl _), Nat.sub_self]; rfl, ok⟩ ?_
  rintro v S hq ⟨_, x2, y2, rfl, ok2⟩
  rw [List.set_append_right _ _ (Nat.le_refl _), Nat.sub_self]
  exact k v x2 y2 hq ok2
theorem law_all {ns : List Int} {R : DK} {xe : Exn → Oh → Prop} {O : Oh} (h : ∀ O', R (.d (.bool true)) O') : w_law [.d (scr ns)] O R xe := by
  refine def_start rfl fun n l cl => ?_
  obtain rfl : O.length = n := l.e
  repeat refine Go.h ?_
  refine sp_pot (k := 0) (by omega) fun x y okp => ?_
  rw [List.append_nil]
  repeat refine Go.h ?_
  refine draw15 (names_draw (m := 2) (by omega)) okp ?_
  rintro v x y ⟨xs, rfl, nm⟩ okp
  obtain ⟨n0, n1, rfl⟩ : ∃ a b, xs = [a, b] := by
    have := nm.len
    match xs, this with
    | [a, b], _ => exact ⟨a, b, rfl⟩
  repeat refine Go.h ?_
  refine go_addC2 (by simp) rfl ?_
  repeat refine Go.h ?_
  refine go_addC2 (by simp) rfl ?_
  repeat refine Go.h ?_
  generalize hL : ([potC x y, _, _, _, _, _, _, _, _, _, _, _, _, _, _, _, _, _, _, _, _, _] : Oh) = L
  obtain ⟨cs, hcs⟩ : ∃ cs : List Nat, cs = [O.length + 1, O.length + 2, O.length + 3, O.length + 4, O.length + 5, O.length + 6, O.length + 7, O.length + 9, O.length + 10, O.length + 11, O.length + 12, O.length + 13, O.length + 14, O.length + 17, O.length + 18, O.length + 19] := ⟨_, rfl⟩
  have at_ : ∀ (k : Nat) (c : Cell), L[k]? = some c → (O ++ L)[O.length + k]? = some c := fun k c h => by rw [List.getElem?_append_right (Nat.le_add_right _ _), Nat.add_sub_cancel_left]; exact h
  haveI g21 : Get L 21 (.lst (cs.map W.c)) := ⟨by rw [← hL, hcs]; rfl⟩
  have h21 := at_ _ _ g21.e
  have hx : ∀ (k j : Nat), cs[k]? = some j → ∃ nm fs, cs15[k]? = some nm ∧ (O ++ L)[j]? = some (.exn nm fs) := by
    intro k j e
    rw [hcs] at e
    iterate 16
      rcases k with _ | k
      · cases e
        exact ⟨_, _, rfl, at_ _ _ (by rw [← hL]; rfl)⟩
    cases e
  refine go_enumC h21 ?_
  repeat refine Go.h ?_
  refine for_enumC (fun k q Γ S => ∃ a b, Γ = [some (.d (scr ns)), some (.d (lS [n0, n1])), some (.d (.tuple [.tuple [.int 0, .str n0, .str n1], .tuple [.int 1, .str n1, .str n0]])), some (.c (O.length + 21)), a, b] ∧ S = O ++ L ∧ cs.drop k = q) ⟨_, _, rfl, rfl, rfl⟩ ?_ ?_
  · rintro k Γ S ⟨a, b, rfl, rfl, _⟩
    refine ⟨h21, ?_⟩
    haveI g12 : Get L 14 (.exn "Ring" [("ring", .tuple [.tuple [.int 0, .str n0, .str n1], .tuple [.int 1, .str n1, .str n0]]), ("kind", .str n0)]) := ⟨by rw [← hL]; rfl⟩
    haveI g13 : Get L 17 (.exn "Round" [("way", .tuple (sD [n0, n1]))]) := ⟨by rw [← hL]; rfl⟩
    haveI g14 : Get L 18 (.exn "Missing" [("name", .str n1)]) := ⟨by rw [← hL]; rfl⟩
    haveI g15 : Get L 19 (.exn "Endless" [("names", .tuple (sD [n0, n1]))]) := ⟨by rw [← hL]; rfl⟩
    have i12 : atI (cs.map W.c) 12 = some (.c (O.length + 14)) := by rw [hcs]; exact atI_nat (m := 12) rfl
    have i13 : atI (cs.map W.c) 13 = some (.c (O.length + 17)) := by rw [hcs]; exact atI_nat (m := 13) rfl
    have i14 : atI (cs.map W.c) 14 = some (.c (O.length + 18)) := by rw [hcs]; exact atI_nat (m := 14) rfl
    have i15 : atI (cs.map W.c) 15 = some (.c (O.length + 19)) := by rw [hcs]; exact atI_nat (m := 15) rfl
    haveI l1 : Lk [(("ring" : Str), PyData.tuple [.tuple [.int 0, .str n0, .str n1], .tuple [.int 1, .str n1, .str n0]]), ("kind", .str n0)] "kind" (.str n0) := ⟨rfl⟩
    haveI l2 : Lk [(("ring" : Str), PyData.tuple [.tuple [.int 0, .str n0, .str n1], .tuple [.int 1, .str n1, .str n0]]), ("kind", .str n0)] "ring" (.tuple [.tuple [.int 0, .str n0, .str n1], .tuple [.int 1, .str n1, .str n0]]) := ⟨rfl⟩
    haveI l3 : Lk [(("way" : Str), PyData.tuple (sD [n0, n1]))] "way" (.tuple (sD [n0, n1])) := ⟨rfl⟩
    haveI l4 : Lk [(("name" : Str), PyData.str n1)] "name" (.str n1) := ⟨rfl⟩
    haveI l5 : Lk [(("names" : Str), PyData.tuple (sD [n0, n1]))] "names" (.tuple (sD [n0, n1])) := ⟨rfl⟩
    haveI : NoDi (.c (O.length + 21)) (O ++ L) := ⟨by unfold isDictW asDk asDt; dsimp only; rw [h21]; rfl⟩
    haveI : AsS (.c (O.length + 21)) (O ++ L) (cs.map W.c) := ⟨by unfold asS; dsimp only; rw [h21]⟩
    repeat refine Go.h ?_
    refine ix2_of i12 ?_
    repeat refine Go.h ?_
    rw [decide_eq_false (by simp)]
    repeat refine Go.h ?_
    refine ix2_of i12 ?_
    repeat refine Go.h ?_
    refine go_neSame rfl ?_
    repeat refine Go.h ?_
    refine ix2_of i13 ?_
    repeat refine Go.h ?_
    refine go_neSame rfl ?_
    repeat refine Go.h ?_
    refine ix2_of i14 ?_
    repeat refine Go.h ?_
    rw [decide_eq_true rfl]
    repeat refine Go.h ?_
    refine ix2_of i15 ?_
    repeat refine Go.h ?_
    refine go_eqSame rfl ?_
    repeat refine Go.h ?_
    exact h _
  · rintro k j q Γ S ⟨a, b, rfl, rfl, e⟩
    refine ⟨h21, fun C hC => ?_⟩
    have ej : cs[k]? = some j := by
      have : (cs.drop k)[0]? = some j := by rw [e]; rfl
      rw [List.getElem?_drop] at this
      exact this
    have eq : cs.drop (k + 1) = q := by rw [← List.drop_drop, e]; rfl
    obtain ⟨nm, fs, e1, e2⟩ := hx k j ej
    have hn : nm ∈ cs15 := List.mem_of_getElem? e1
    show (Tg.tup [.nm 4, .nm 5]).put (.t [.inl (.int k), .inr j]) _ _
    unfold Tg.put
    show Tg.puts [.nm 4, .nm 5] [.d (.int k), .c j] _ _
    repeat refine Go.h ?_
    refine sp_kinds e2 hn ?_
    repeat refine Go.h ?_
    rw [ks15_at k nm e1]
    refine go_neSame rfl ?_
    repeat refine Go.h ?_
    refine go_isO e2 hn ?_
    repeat refine Go.h ?_
    refine go_isO e2 hn ?_
    repeat refine Go.h ?_
    exact hC _ _ ⟨_, _, rfl, rfl, eq⟩
theorem law_true : ∀ (ns : List Int), ns.length ≤ 63 → ∀ (R : DK) (xe : Exn → Oh → Prop), (∀ O', R (.d (.bool true)) O') → w_law [.d (.dict [(.none, .list (ns.map PyData.int))])] [] R xe := fun ns _ R xe h => law_all h
end Dl
namespace Dl
open PySem PySem.Spec PyProof.Rows L2
def topS (i : Nat) : Stmt := PySem.Challenge.pw_parentlines_k15_refusals_made.main.body.getD i (.Pass ⟨0, 0, 0, 0⟩)
section
variable [TabsC] {P : Program} {w : World} {K : Fg} {mg : Str → Option Value} {base : Heap}
abbrev s__law_pot : Stmt := topS 19
theorem sc__law_pot : FnScope ["_law_script", "_law_k", "_law_cell"] ["_law_script", "_law_k"] (defScope s__law_pot) := ⟨rfl, rfl, rfl, by decide +kernel, rfl, by decide +kernel, by decide +kernel⟩
theorem ok__law_pot {f : Addr} {fd : FuncData} (F : Fun K "_law_pot" "_law_pot" s__law_pot f fd) (nb : NB mg) : FnOk P w K mg base (L2N.CX P w) 1 f fd ["_law_script", "_law_k"] (liftF K mg w__law_pot) :=
  ok_defC (k := 0) F sc__law_pot fun cdv A outer s H E g =>
  (dss_cons (ds_set g rfl (by first | exact Or.inl rfl | exact Or.inr rfl) de_int)
  (dss_cons (ds_if (dt_cmp (op_lt2 g) s_lt2 (de_var 1) (de_callB call_len3 s_len nb.len (by decide +kernel) (da_cons (de_var 0) da_nil)))
   (dss_one (ds_set g rfl (by first | exact Or.inl rfl | exact Or.inr rfl) (de_ix2 g (de_var 0) (de_var 1))))
   dss_nil)
  (dss_one (ds_ret (de_lstC (da_cons (de_callB (call_max2 g.calm) s_max nb.max (by decide +kernel) (da_cons de_int (da_cons (de_op op_sub s_sub (de_callB call_abs s_abs nb.abs (by decide +kernel) (da_cons (de_var 2) da_nil)) (de_op op_pow s_pow de_int de_int)) da_nil))) (da_cons (de_op op_add4 s_add (de_op op_add4 s_add (de_op op_mod s_mod (de_callB call_abs s_abs nb.abs (by decide +kernel) (da_cons (de_var 2) da_nil)) de_int) (de_op op_mul s_mul de_int (de_var 1))) de_int) da_nil)))))))
abbrev s__law_digit : Stmt := topS 20
theorem sc__law_digit : FnScope ["_law_pot_here", "_law_many", "_law_digit_here"] ["_law_pot_here", "_law_many"] (defScope s__law_digit) := ⟨rfl, rfl, rfl, by decide +kernel, rfl, by decide +kernel, by decide +kernel⟩
theorem ok__law_digit {f : Addr} {fd : FuncData} (F : Fun K "_law_digit" "_law_digit" s__law_digit f fd) (nb : NB mg) : FnOk P w K mg base (L2N.CX P w) 1 f fd ["_law_pot_here", "_law_many"] (liftF K mg w__law_digit) :=
  ok_def (k := 0) F sc__law_digit fun cdv A outer s H E g =>
  (dss_cons (ds_if (dt_cmp (op_gt2 g) s_gt2 (de_ix2 g (de_var 0) de_int) de_int)
   (dss_cons (ds_set g rfl (by first | exact Or.inl rfl | exact Or.inr rfl) (de_op op_mod s_mod (de_ix2 g (de_var 0) de_int) (de_var 1)))
   (dss_cons (ds_setI g (de_var 0) de_int (de_op op_fdivW s_div (de_ix2 g (de_var 0) de_int) (de_var 1)))
   (dss_one (ds_ret (de_var 2)))))
   dss_nil)
  (dss_cons (ds_setI g (de_var 0) de_int (de_op op_mod s_mod (de_op op_add4 s_add (de_op op_mul s_mul (de_ix2 g (de_var 0) de_int) de_int) de_int) de_int))
  (dss_one (ds_ret (de_op op_mod s_mod (de_op op_fdivW s_div (de_op op_mod s_mod (de_op op_mul s_mul (de_ix2 g (de_var 0) de_int) (de_ix2 g (de_var 0) de_int)) de_int) de_int) (de_var 1))))))
abbrev s__law_names : Stmt := topS 21
theorem sc__law_names : FnScope ["_law_pot_here", "_law_many", "_law_letters", "_law_found", "_law_k", "_law_size", "_law_name", "_law_some", "_law_turn", "_law_one"] ["_law_pot_here", "_law_many"] (defScope s__law_names) := ⟨rfl, rfl, rfl, by decide +kernel, rfl, by decide +kernel, by decide +kernel⟩
theorem ok__law_names {f : Addr} {fd : FuncData} (F : Fun K "_law_names" "_law_names" s__law_names f fd) (nb : NB mg) (T__law_digit : Has P w K mg base "_law_digit" ["_law_pot_here", "_law_many"] 1 w__law_digit) : FnOk P w K mg base (L2N.CX P w) 2 f fd ["_law_pot_here", "_law_many"] (liftF K mg w__law_names) :=
  ok_def (k := 1) F sc__law_names fun cdv A outer s H E g =>
  (dss_cons (ds_set g rfl (by first | exact Or.inl rfl | exact Or.inr rfl) de_str)
  (dss_cons (ds_set g rfl (by first | exact Or.inl rfl | exact Or.inr rfl) (de_lstC da_nil))
  (dss_cons (ds_for g (.nm 4) (di_rng1 nb.range (da_cons (de_var 1) da_nil)) (pg_name (i := 4) g.nd rfl (by first | exact Or.inl rfl | exact Or.inr rfl))
   (dss_cons (ds_set g rfl (by first | exact Or.inl rfl | exact Or.inr rfl) (de_op op_add4 s_add de_int (de_call0 g T__law_digit (by decide) (da_cons (de_var 0) (da_cons (de_ix2 g (de_lst (da_cons de_int (da_cons de_int (da_cons de_int da_nil)))) (de_call0 g T__law_digit (by decide) (da_cons (de_var 0) (da_cons de_int da_nil)))) da_nil)))))
   (dss_cons (ds_set g rfl (by first | exact Or.inl rfl | exact Or.inr rfl) (de_join de_str (de_lc g (own := [("_law_turn", 8)]) (.nm 8) (by decide) (di_rng1 nb.range (da_cons (de_var 5) da_nil)) (blk_ok (by kernel_rfl)) (fun s H C cl fp => (pg_name (i := 8) g.nd rfl (by first | exact Or.inl rfl | exact Or.inr rfl))) (fun s H C cl fp g => dts_nil) (fun s H C cl fp g => (de_ix2 g (de_var 2) (de_call0 g T__law_digit (by decide) (da_cons (de_var 0) (da_cons de_int da_nil))))))))
   (dss_cons (ds_if (dt_cmp (op_in5 g) s_in2 (de_var 6) (de_var 3))
    (dss_cons (by first | exact ds_setLc g rfl rfl (sw_true rfl rfl rfl (by decide +kernel)) (own := [("_law_turn", 8)]) (.nm 8) (by decide) (di_rng1 nb.range (da_cons (de_op op_add4 s_add (de_var 1) de_int) da_nil)) (blk_ok (by kernel_rfl)) (fun s H C cl fp => (pg_name (i := 8) g.nd rfl (by first | exact Or.inl rfl | exact Or.inr rfl))) (fun s H C cl fp g => dts_nil) (fun s H C cl fp g => (de_op op_add4 s_add (de_op op_add4 s_add (de_slice (de_var 6) do_none (do_some de_int)) (de_ix2 g (de_var 2) (de_var 8))) de_str)) | exact ds_set g rfl (by first | exact Or.inl rfl | exact Or.inr rfl) (de_lc g (own := [("_law_turn", 8)]) (.nm 8) (by decide) (di_rng1 nb.range (da_cons (de_op op_add4 s_add (de_var 1) de_int) da_nil)) (blk_ok (by kernel_rfl)) (fun s H C cl fp => (pg_name (i := 8) g.nd rfl (by first | exact Or.inl rfl | exact Or.inr rfl))) (fun s H C cl fp g => dts_nil) (fun s H C cl fp g => (de_op op_add4 s_add (de_op op_add4 s_add (de_slice (de_var 6) do_none (do_some de_int)) (de_ix2 g (de_var 2) (de_var 8))) de_str))))
    (dss_one (ds_set g rfl (by first | exact Or.inl rfl | exact Or.inr rfl) (de_ix2 g (de_lc g (own := [("_law_one", 9)]) (.nm 9) (by decide) (di_seq (de_var 7)) (blk_ok (by kernel_rfl)) (fun s H C cl fp => (pg_name (i := 9) g.nd rfl (by first | exact Or.inl rfl | exact Or.inr rfl))) (fun s H C cl fp g => (dts_one (dt_cmp (op_notin5 g) s_in2 (de_var 9) (de_var 3)))) (fun s H C cl fp g => (de_var 9))) de_int))))
    dss_nil)
   (dss_one (ds_expr (de_bm PySem.F.plainAttrs_list PySem.F.slot_list_append PySem.F.type_list_append mt_append s_append tw_list (de_var 3) (da_cons (de_var 6) da_nil))))))))
  (dss_one (ds_ret (de_var 3))))))
abbrev s__law_kinds : Stmt := topS 22
theorem sc__law_kinds : FnScope ["_law_e", "_law_some", "_law_k"] ["_law_e"] (defScope s__law_kinds) := ⟨rfl, rfl, rfl, by decide +kernel, rfl, by decide +kernel, by decide +kernel⟩
theorem ok__law_kinds {f : Addr} {fd : FuncData} (F : Fun K "_law_kinds" "_law_kinds" s__law_kinds f fd) (nb : NB mg) (V : XIsV K mg ["NoName", "NoKind", "NoParents", "Taken", "InUse", "NoEntry", "NoThing", "NoNumber", "NotAbove", "Shut", "NoText", "NoRow", "Ring", "Round", "Missing", "Endless"] "ValueError") (I_Endless : XIs K mg ["NoName", "NoKind", "NoParents", "Taken", "InUse", "NoEntry", "NoThing", "NoNumber", "NotAbove", "Shut", "NoText", "NoRow", "Ring", "Round", "Missing", "Endless"] "Endless") (I_InUse : XIs K mg ["NoName", "NoKind", "NoParents", "Taken", "InUse", "NoEntry", "NoThing", "NoNumber", "NotAbove", "Shut", "NoText", "NoRow", "Ring", "Round", "Missing", "Endless"] "InUse") (I_Missing : XIs K mg ["NoName", "NoKind", "NoParents", "Taken", "InUse", "NoEntry", "NoThing", "NoNumber", "NotAbove", "Shut", "NoText", "NoRow", "Ring", "Round", "Missing", "Endless"] "Missing") (I_NoEntry : XIs K mg ["NoName", "NoKind", "NoParents", "Taken", "InUse", "NoEntry", "NoThing", "NoNumber", "NotAbove", "Shut", "NoText", "NoRow", "Ring", "Round", "Missing", "Endless"] "NoEntry") (I_NoKind : XIs K mg ["NoName", "NoKind", "NoParents", "Taken", "InUse", "NoEntry", "NoThing", "NoNumber", "NotAbove", "Shut", "NoText", "NoRow", "Ring", "Round", "Missing", "Endless"] "NoKind") (I_NoName : XIs K mg ["NoName", "NoKind", "NoParents", "Taken", "InUse", "NoEntry", "NoThing", "NoNumber", "NotAbove", "Shut", "NoText", "NoRow", "Ring", "Round", "Missing", "Endless"] "NoName") (I_NoNumber : XIs K mg ["NoName", "NoKind", "NoParents", "Taken", "InUse", "NoEntry", "NoThing", "NoNumber", "NotAbove", "Shut", "NoText", "NoRow", "Ring", "Round", "Missing", "Endless"] "NoNumber") (I_NoParents : XIs K mg ["NoName", "NoKind", "NoParents", "Taken", "InUse", "NoEntry", "NoThing", "NoNumber", "NotAbove", "Shut", "NoText", "NoRow", "Ring", "Round", "Missing", "Endless"] "NoParents") (I_NoRow : XIs K mg ["NoName", "NoKind", "NoParents", "Taken", "InUse", "NoEntry", "NoThing", "NoNumber", "NotAbove", "Shut", "NoText", "NoRow", "Ring", "Round", "Missing", "Endless"] "NoRow") (I_NoText : XIs K mg ["NoName", "NoKind", "NoParents", "Taken", "InUse", "NoEntry", "NoThing", "NoNumber", "NotAbove", "Shut", "NoText", "NoRow", "Ring", "Round", "Missing", "Endless"] "NoText") (I_NoThing : XIs K mg ["NoName", "NoKind", "NoParents", "Taken", "InUse", "NoEntry", "NoThing", "NoNumber", "NotAbove", "Shut", "NoText", "NoRow", "Ring", "Round", "Missing", "Endless"] "NoThing") (I_NotAbove : XIs K mg ["NoName", "NoKind", "NoParents", "Taken", "InUse", "NoEntry", "NoThing", "NoNumber", "NotAbove", "Shut", "NoText", "NoRow", "Ring", "Round", "Missing", "Endless"] "NotAbove") (I_Ring : XIs K mg ["NoName", "NoKind", "NoParents", "Taken", "InUse", "NoEntry", "NoThing", "NoNumber", "NotAbove", "Shut", "NoText", "NoRow", "Ring", "Round", "Missing", "Endless"] "Ring") (I_Round : XIs K mg ["NoName", "NoKind", "NoParents", "Taken", "InUse", "NoEntry", "NoThing", "NoNumber", "NotAbove", "Shut", "NoText", "NoRow", "Ring", "Round", "Missing", "Endless"] "Round") (I_Shut : XIs K mg ["NoName", "NoKind", "NoParents", "Taken", "InUse", "NoEntry", "NoThing", "NoNumber", "NotAbove", "Shut", "NoText", "NoRow", "Ring", "Round", "Missing", "Endless"] "Shut") (I_Taken : XIs K mg ["NoName", "NoKind", "NoParents", "Taken", "InUse", "NoEntry", "NoThing", "NoNumber", "NotAbove", "Shut", "NoText", "NoRow", "Ring", "Round", "Missing", "Endless"] "Taken") : FnOk P w K mg base (L2N.CX P w) 1 f fd ["_law_e"] (liftF K mg w__law_kinds) :=
  ok_def (k := 0) F sc__law_kinds fun cdv A outer s H E g =>
  (dss_cons (ds_set g rfl (by first | exact Or.inl rfl | exact Or.inr rfl) (de_lst (da_cons (de_isOx I_NoName V nb.isinstance (de_var 0) (by decide +kernel)) (da_cons (de_isOx I_NoKind V nb.isinstance (de_var 0) (by decide +kernel)) (da_cons (de_isOx I_NoParents V nb.isinstance (de_var 0) (by decide +kernel)) (da_cons (de_isOx I_Taken V nb.isinstance (de_var 0) (by decide +kernel)) da_nil))))))
  (dss_cons (ds_set g rfl (by first | exact Or.inl rfl | exact Or.inr rfl) (de_op op_add4 s_add (de_var 1) (de_lst (da_cons (de_isOx I_InUse V nb.isinstance (de_var 0) (by decide +kernel)) (da_cons (de_isOx I_NoEntry V nb.isinstance (de_var 0) (by decide +kernel)) (da_cons (de_isOx I_NoThing V nb.isinstance (de_var 0) (by decide +kernel)) (da_cons (de_isOx I_NoNumber V nb.isinstance (de_var 0) (by decide +kernel)) da_nil)))))))
  (dss_cons (ds_set g rfl (by first | exact Or.inl rfl | exact Or.inr rfl) (de_op op_add4 s_add (de_var 1) (de_lst (da_cons (de_isOx I_NotAbove V nb.isinstance (de_var 0) (by decide +kernel)) (da_cons (de_isOx I_Shut V nb.isinstance (de_var 0) (by decide +kernel)) (da_cons (de_isOx I_NoText V nb.isinstance (de_var 0) (by decide +kernel)) (da_cons (de_isOx I_NoRow V nb.isinstance (de_var 0) (by decide +kernel)) da_nil)))))))
  (dss_cons (ds_set g rfl (by first | exact Or.inl rfl | exact Or.inr rfl) (de_op op_add4 s_add (de_var 1) (de_lst (da_cons (de_isOx I_Ring V nb.isinstance (de_var 0) (by decide +kernel)) (da_cons (de_isOx I_Round V nb.isinstance (de_var 0) (by decide +kernel)) (da_cons (de_isOx I_Missing V nb.isinstance (de_var 0) (by decide +kernel)) (da_cons (de_isOx I_Endless V nb.isinstance (de_var 0) (by decide +kernel)) da_nil)))))))
  (dss_one (ds_ret (de_lc g (own := [("_law_k", 2)]) (.nm 2) (by decide) (di_rng1 nb.range (da_cons de_int da_nil)) (blk_ok (by kernel_rfl)) (fun s H C cl fp => (pg_name (i := 2) g.nd rfl (by first | exact Or.inl rfl | exact Or.inr rfl))) (fun s H C cl fp g => (dts_one (dt_val (de_ix2 g (de_var 1) (de_var 2))))) (fun s H C cl fp g => (de_var 2)))))))))
abbrev s_law : Stmt := topS 23
theorem sc_law : FnScope ["_law_script", "_law_names_here", "_law_ring", "_law_made", "_law_k", "_law_e"] ["_law_script"] (defScope s_law) := ⟨rfl, rfl, rfl, by decide +kernel, rfl, by decide +kernel, by decide +kernel⟩
theorem ok_law {f : Addr} {fd : FuncData} (F : Fun K "law" "law" s_law f fd) (nb : NB mg) (T__law_kinds : Has P w K mg base "_law_kinds" ["_law_e"] 1 w__law_kinds) (T__law_names : Has P w K mg base "_law_names" ["_law_pot_here", "_law_many"] 2 w__law_names) (T__law_pot : Has P w K mg base "_law_pot" ["_law_script", "_law_k"] 1 w__law_pot) (X_Endless : XCF P w K mg base "Endless" ["names"]) (X_InUse : XC0 K mg "InUse") (X_Missing : XCF P w K mg base "Missing" ["name"]) (X_NoEntry : XC0 K mg "NoEntry") (X_NoKind : XC0 K mg "NoKind") (X_NoName : XC0 K mg "NoName") (X_NoNumber : XC0 K mg "NoNumber") (X_NoParents : XC0 K mg "NoParents") (X_NoRow : XC0 K mg "NoRow") (X_NoText : XC0 K mg "NoText") (X_NoThing : XC0 K mg "NoThing") (X_NotAbove : XC0 K mg "NotAbove") (X_Ring : XCF P w K mg base "Ring" ["kind", "ring"]) (X_Round : XCF P w K mg base "Round" ["way"]) (X_Shut : XC0 K mg "Shut") (X_Taken : XC0 K mg "Taken") (IB_LineError : XIsB K mg ["NoName", "NoKind", "NoParents", "Taken", "InUse", "NoEntry", "NoThing", "NoNumber", "NotAbove", "Shut", "NoText", "NoRow", "Ring", "Round", "Missing", "Endless"] "LineError") (V : XIsV K mg ["NoName", "NoKind", "NoParents", "Taken", "InUse", "NoEntry", "NoThing", "NoNumber", "NotAbove", "Shut", "NoText", "NoRow", "Ring", "Round", "Missing", "Endless"] "ValueError") (nv : mg "ValueError" = none) : FnOk P w K mg base (LM.CX true P w) 3 f fd ["_law_script"] (liftF K mg w_law) :=
  ok_defZ (k := 2) F sc_law fun cdv A outer s H E g tz =>
  (dss_cons (ds_set g rfl (by first | exact Or.inl rfl | exact Or.inr rfl) (de_call0 g T__law_names (by decide) (da_cons (de_call0 g T__law_pot (by decide) (da_cons (de_var 0) (da_cons de_int da_nil))) (da_cons de_int da_nil))))
  (dss_cons (ds_set g rfl (by first | exact Or.inl rfl | exact Or.inr rfl) (de_tup (da_cons (de_tup (da_cons de_int (da_cons (de_ix2 g (de_var 1) de_int) (da_cons (de_ix2 g (de_var 1) de_int) da_nil)))) (da_cons (de_tup (da_cons de_int (da_cons (de_ix2 g (de_var 1) de_int) (da_cons (de_ix2 g (de_var 1) de_int) da_nil)))) da_nil))))
  (dss_cons (ds_set g rfl (by first | exact Or.inl rfl | exact Or.inr rfl) (de_lstC (da_cons (de_new0 X_NoName) (da_cons (de_new0 X_NoKind) (da_cons (de_new0 X_NoParents) (da_cons (de_new0 X_Taken) (da_cons (de_new0 X_InUse) (da_cons (de_new0 X_NoEntry) (da_cons (de_new0 X_NoThing) da_nil)))))))))
  (dss_cons (ds_set g rfl (by first | exact Or.inl rfl | exact Or.inr rfl) (de_op op_add4 s_addC (de_var 3) (de_lstC (da_cons (de_new0 X_NoNumber) (da_cons (de_new0 X_NotAbove) (da_cons (de_new0 X_Shut) (da_cons (de_new0 X_NoText) (da_cons (de_new0 X_NoRow) (da_cons (de_newF g (by omega) X_Ring (ha := (da_cons (de_ix2 g (de_var 1) de_int) (da_cons (de_var 2) da_nil)))) da_nil)))))))))
  (dss_cons (ds_set g rfl (by first | exact Or.inl rfl | exact Or.inr rfl) (de_op op_add4 s_addC (de_var 3) (de_lstC (da_cons (de_newF g (by omega) X_Round (ha := (da_cons (de_callTy call_tupOf s_tupOf nb.tuple (by decide +kernel) (da_cons (de_var 1) da_nil)) da_nil))) (da_cons (de_newF g (by omega) X_Missing (ha := (da_cons (de_ix2 g (de_var 1) de_int) da_nil))) (da_cons (de_newF g (by omega) X_Endless (ha := (da_cons (de_callTy call_tupOf s_tupOf nb.tuple (by decide +kernel) (da_cons (de_var 1) da_nil)) da_nil))) da_nil))))))
  (dss_cons (ds_for g (.tup [(.nm 4), (.nm 5)]) (di_enumC nb.enumerate (da_cons (de_var 3) da_nil)) (pg_tup g.calm (pgs_cons (pg_name (i := 4) g.nd rfl (by first | exact Or.inl rfl | exact Or.inr rfl)) (pgs_cons (pg_name (i := 5) g.nd rfl (by first | exact Or.inl rfl | exact Or.inr rfl)) pgs_nil)))
   (dss_one (ds_if (DW.t (dw_or (dt_cmp (op_neG g) s_ne (de_call0 g T__law_kinds (by decide) (da_cons (de_var 5) da_nil)) (de_lst (da_cons (de_var 4) da_nil))) (dw_or (dt_not (dt_val (de_isOb IB_LineError V nb.isinstance (de_var 5) (by decide +kernel)))) (dw_or1 (dt_not (dt_val (de_isOw V nb.isinstance nv (de_var 5) (by decide +kernel) (by decide +kernel))))))))
    (dss_one (ds_ret de_bl))
    dss_nil)))
  (dss_cons (ds_if (DW.t (dw_or (dt_cmp (op_neG g) s_ne (de_xfO X_Ring (by decide) (de_ix2 g (de_var 3) de_int)) (de_ix2 g (de_var 1) de_int)) (dw_or (dt_cmp (op_neG g) s_ne (de_xfO X_Ring (by decide) (de_ix2 g (de_var 3) de_int)) (de_var 2)) (dw_or1 (dt_cmp (op_neG g) s_ne (de_xfO X_Round (by decide) (de_ix2 g (de_var 3) de_int)) (de_callTy call_tupOf s_tupOf nb.tuple (by decide +kernel) (da_cons (de_var 1) da_nil)))))))
   (dss_one (ds_ret de_bl))
   dss_nil)
  (dss_one (ds_ret (de_and (de_cmp (op_eqG g) s_eq (de_xfO X_Missing (by decide) (de_ix2 g (de_var 3) de_int)) (de_ix2 g (de_var 1) de_int)) (de_one (de_cmp (op_eqG g) s_eq (de_xfO X_Endless (by decide) (de_ix2 g (de_var 3) de_int)) (de_callTy call_tupOf s_tupOf nb.tuple (by decide +kernel) (da_cons (de_var 1) da_nil))))))))))))))
end
def spLaw (K : Fg) : Sp := fun vs H Q _ => ∃ (a : Addr) (ns : List Int), vs = [.ref a] ∧ SqL K H a (ns.map V.int) ∧ ns.length ≤ 63 ∧ ∀ H', Q (.bl true) H'
section
variable [TabsC]
abbrev s_Ringi : Stmt := inClass (topS 14) 0
theorem sc_Ringi : FnScope ["self", "kind", "ring"] ["self", "kind", "ring"] (defScope s_Ringi) := ⟨rfl, rfl, rfl, by decide +kernel, rfl, by decide +kernel, by decide +kernel⟩
theorem ok_Ringi {P : Program} {w : World} {K : Fg} {mg : Str → Option Value} {base : Heap} {f : Addr} {fd : FuncData} (F : Fun K "__init__" "Ring.__init__" s_Ringi f fd) (B : BaseC K mg "LineError") : FnOk P w K mg base CX0 1 f fd ["self", "kind", "ring"] (spIni K ["kind", "ring"]) := by
  refine F.ok sc_Ringi (fun vs H Q E h => ?_) (fun cdv A outer s H vs Q E hr h => ?_)
  · obtain ⟨a, C, us, rfl, hl, _⟩ := h
    rw [List.length_cons, hl]; rfl
  · exact ⟨_, pss_cons (ps_expr (pe_leinit (pl := _) rfl B (pa_cons (pv 0) (pa_cons pe_str pa_nil)))) (pss_cons (ps_ost (pv 0) (pv 1)) (pss_one (ps_ost (pv 0) (pv 2)))), ini2 rfl h⟩
abbrev s_Roundi : Stmt := inClass (topS 15) 0
theorem sc_Roundi : FnScope ["self", "way"] ["self", "way"] (defScope s_Roundi) := ⟨rfl, rfl, rfl, by decide +kernel, rfl, by decide +kernel, by decide +kernel⟩
theorem ok_Roundi {P : Program} {w : World} {K : Fg} {mg : Str → Option Value} {base : Heap} {f : Addr} {fd : FuncData} (F : Fun K "__init__" "Round.__init__" s_Roundi f fd) (B : BaseC K mg "LineError") : FnOk P w K mg base CX0 1 f fd ["self", "way"] (spIni K ["way"]) := by
  refine F.ok sc_Roundi (fun vs H Q E h => ?_) (fun cdv A outer s H vs Q E hr h => ?_)
  · obtain ⟨a, C, us, rfl, hl, _⟩ := h
    rw [List.length_cons, hl]; rfl
  · exact ⟨_, pss_cons (ps_expr (pe_leinit (pl := _) rfl B (pa_cons (pv 0) (pa_cons pe_str pa_nil)))) (pss_one (ps_ost (pv 0) (pv 1))), ini1 rfl h⟩
abbrev s_Missingi : Stmt := inClass (topS 16) 0
theorem sc_Missingi : FnScope ["self", "name"] ["self", "name"] (defScope s_Missingi) := ⟨rfl, rfl, rfl, by decide +kernel, rfl, by decide +kernel, by decide +kernel⟩
theorem ok_Missingi {P : Program} {w : World} {K : Fg} {mg : Str → Option Value} {base : Heap} {f : Addr} {fd : FuncData} (F : Fun K "__init__" "Missing.__init__" s_Missingi f fd) (B : BaseC K mg "LineError") : FnOk P w K mg base CX0 1 f fd ["self", "name"] (spIni K ["name"]) := by
  refine F.ok sc_Missingi (fun vs H Q E h => ?_) (fun cdv A outer s H vs Q E hr h => ?_)
  · obtain ⟨a, C, us, rfl, hl, _⟩ := h
    rw [List.length_cons, hl]; rfl
  · exact ⟨_, pss_cons (ps_expr (pe_leinit (pl := _) rfl B (pa_cons (pv 0) (pa_cons pe_str pa_nil)))) (pss_one (ps_ost (pv 0) (pv 1))), ini1 rfl h⟩
abbrev s_Endlessi : Stmt := inClass (topS 17) 0
theorem sc_Endlessi : FnScope ["self", "names"] ["self", "names"] (defScope s_Endlessi) := ⟨rfl, rfl, rfl, by decide +kernel, rfl, by decide +kernel, by decide +kernel⟩
theorem ok_Endlessi {P : Program} {w : World} {K : Fg} {mg : Str → Option Value} {base : Heap} {f : Addr} {fd : FuncData} (F : Fun K "__init__" "Endless.__init__" s_Endlessi f fd) (B : BaseC K mg "LineError") : FnOk P w K mg base CX0 1 f fd ["self", "names"] (spIni K ["names"]) := by
  refine F.ok sc_Endlessi (fun vs H Q E h => ?_) (fun cdv A outer s H vs Q E hr h => ?_)
  · obtain ⟨a, C, us, rfl, hl, _⟩ := h
    rw [List.length_cons, hl]; rfl
  · exact ⟨_, pss_cons (ps_expr (pe_leinit (pl := _) rfl B (pa_cons (pv 0) (pa_cons pe_str pa_nil)))) (pss_one (ps_ost (pv 0) (pv 1))), ini1 rfl h⟩
end
instance : TabsC := ⟨[]⟩
theorem all_mk {l : PySem.W.OpenLaw} {w : World} {K : Fg} {h : Heap} {mg : Str → Option Value} {fa : Addr} (X : K.In h) (G : h.Ns mainGlobals mg) (hfa : mg "law" = some (.ref fa))
    {C_LineError : Addr}
    {C_NoName : Addr}
    {C_NoKind : Addr}
    {C_NoParents : Addr}
    {C_Taken : Addr}
    {C_InUse : Addr}
    {C_NoEntry : Addr}
    {C_NoThing : Addr}
    {C_NoNumber : Addr}
    {C_NotAbove : Addr}
    {C_Shut : Addr}
    {C_NoText : Addr}
    {C_NoRow : Addr}
    {C_Ring : Addr}
    {C_Round : Addr}
    {C_Missing : Addr}
    {C_Endless : Addr}
    {nm_Ring q_Ring : Str} {N_Ring : Addr} {bs_Ring bm_Ring : List Value} {sn_Ring : List Str} {sub_Ring : List Value} {ab_Ring : Bool} {col_Ring : Option Bool} {dd_Ring : Option Addr} {m0_Ring m1_Ring m2_Ring m3_Ring m5_Ring : Option Value}
    {f_Ringi : Addr} {od_Ringi an_Ringi : Option Addr} {sl_Ringi : Array (Option Value)} {oc_Ringi kv_Ringi dc_Ringi pm_Ringi cd_Ringi ct_Ringi : Value}
    {nm_Round q_Round : Str} {N_Round : Addr} {bs_Round bm_Round : List Value} {sn_Round : List Str} {sub_Round : List Value} {ab_Round : Bool} {col_Round : Option Bool} {dd_Round : Option Addr} {m0_Round m1_Round m2_Round m3_Round m5_Round : Option Value}
    {f_Roundi : Addr} {od_Roundi an_Roundi : Option Addr} {sl_Roundi : Array (Option Value)} {oc_Roundi kv_Roundi dc_Roundi pm_Roundi cd_Roundi ct_Roundi : Value}
    {nm_Missing q_Missing : Str} {N_Missing : Addr} {bs_Missing bm_Missing : List Value} {sn_Missing : List Str} {sub_Missing : List Value} {ab_Missing : Bool} {col_Missing : Option Bool} {dd_Missing : Option Addr} {m0_Missing m1_Missing m2_Missing m3_Missing m5_Missing : Option Value}
    {f_Missingi : Addr} {od_Missingi an_Missingi : Option Addr} {sl_Missingi : Array (Option Value)} {oc_Missingi kv_Missingi dc_Missingi pm_Missingi cd_Missingi ct_Missingi : Value}
    {nm_Endless q_Endless : Str} {N_Endless : Addr} {bs_Endless bm_Endless : List Value} {sn_Endless : List Str} {sub_Endless : List Value} {ab_Endless : Bool} {col_Endless : Option Bool} {dd_Endless : Option Addr} {m0_Endless m1_Endless m2_Endless m3_Endless m5_Endless : Option Value}
    {f_Endlessi : Addr} {od_Endlessi an_Endlessi : Option Addr} {sl_Endlessi : Array (Option Value)} {oc_Endlessi kv_Endlessi dc_Endlessi pm_Endlessi cd_Endlessi ct_Endlessi : Value}
    {f__law_pot : Addr} {od__law_pot an__law_pot : Option Addr} {sl__law_pot : Array (Option Value)} {oc__law_pot kv__law_pot dc__law_pot pm__law_pot cd__law_pot ct__law_pot : Value}
    {f__law_digit : Addr} {od__law_digit an__law_digit : Option Addr} {sl__law_digit : Array (Option Value)} {oc__law_digit kv__law_digit dc__law_digit pm__law_digit cd__law_digit ct__law_digit : Value}
    {f__law_names : Addr} {od__law_names an__law_names : Option Addr} {sl__law_names : Array (Option Value)} {oc__law_names kv__law_names dc__law_names pm__law_names cd__law_names ct__law_names : Value}
    {f__law_kinds : Addr} {od__law_kinds an__law_kinds : Option Addr} {sl__law_kinds : Array (Option Value)} {oc__law_kinds kv__law_kinds dc__law_kinds pm__law_kinds cd__law_kinds ct__law_kinds : Value}
    {f_law : Addr} {od_law an_law : Option Addr} {sl_law : Array (Option Value)} {oc_law kv_law dc_law pm_law cd_law ct_law : Value}
    (n_LineError : PySem.W.nsIn K mainGlobals "LineError" = some (some (.ref C_LineError)))
    (n_NoName : PySem.W.nsIn K mainGlobals "NoName" = some (some (.ref C_NoName)))
    (n_NoKind : PySem.W.nsIn K mainGlobals "NoKind" = some (some (.ref C_NoKind)))
    (n_NoParents : PySem.W.nsIn K mainGlobals "NoParents" = some (some (.ref C_NoParents)))
    (n_Taken : PySem.W.nsIn K mainGlobals "Taken" = some (some (.ref C_Taken)))
    (n_InUse : PySem.W.nsIn K mainGlobals "InUse" = some (some (.ref C_InUse)))
    (n_NoEntry : PySem.W.nsIn K mainGlobals "NoEntry" = some (some (.ref C_NoEntry)))
    (n_NoThing : PySem.W.nsIn K mainGlobals "NoThing" = some (some (.ref C_NoThing)))
    (n_NoNumber : PySem.W.nsIn K mainGlobals "NoNumber" = some (some (.ref C_NoNumber)))
    (n_NotAbove : PySem.W.nsIn K mainGlobals "NotAbove" = some (some (.ref C_NotAbove)))
    (n_Shut : PySem.W.nsIn K mainGlobals "Shut" = some (some (.ref C_Shut)))
    (n_NoText : PySem.W.nsIn K mainGlobals "NoText" = some (some (.ref C_NoText)))
    (n_NoRow : PySem.W.nsIn K mainGlobals "NoRow" = some (some (.ref C_NoRow)))
    (n_Ring : PySem.W.nsIn K mainGlobals "Ring" = some (some (.ref C_Ring)))
    (n_Round : PySem.W.nsIn K mainGlobals "Round" = some (some (.ref C_Round)))
    (n_Missing : PySem.W.nsIn K mainGlobals "Missing" = some (some (.ref C_Missing)))
    (n_Endless : PySem.W.nsIn K mainGlobals "Endless" = some (some (.ref C_Endless)))
    (s_LineError : PySem.W.subIn K (.ref C_LineError) (.type "BaseException") = some true)
    (t_LineError : PySem.W.typeIn K (.ref C_LineError) = some (.type "type"))
    (kc_LineError : PySem.W.keepIn K (.ref C_LineError) = true)
    (s_NoName : PySem.W.subIn K (.ref C_NoName) (.type "BaseException") = some true)
    (t_NoName : PySem.W.typeIn K (.ref C_NoName) = some (.type "type"))
    (kc_NoName : PySem.W.keepIn K (.ref C_NoName) = true)
    (x_NoName : PySem.W.excIn K C_NoName [.type "ValueError", .type "Exception", .type "BaseException", .type "object"] "ValueError.__new__" = true)
    (s_NoKind : PySem.W.subIn K (.ref C_NoKind) (.type "BaseException") = some true)
    (t_NoKind : PySem.W.typeIn K (.ref C_NoKind) = some (.type "type"))
    (kc_NoKind : PySem.W.keepIn K (.ref C_NoKind) = true)
    (x_NoKind : PySem.W.excIn K C_NoKind [.type "ValueError", .type "Exception", .type "BaseException", .type "object"] "ValueError.__new__" = true)
    (s_NoParents : PySem.W.subIn K (.ref C_NoParents) (.type "BaseException") = some true)
    (t_NoParents : PySem.W.typeIn K (.ref C_NoParents) = some (.type "type"))
    (kc_NoParents : PySem.W.keepIn K (.ref C_NoParents) = true)
    (x_NoParents : PySem.W.excIn K C_NoParents [.type "ValueError", .type "Exception", .type "BaseException", .type "object"] "ValueError.__new__" = true)
    (s_Taken : PySem.W.subIn K (.ref C_Taken) (.type "BaseException") = some true)
    (t_Taken : PySem.W.typeIn K (.ref C_Taken) = some (.type "type"))
    (kc_Taken : PySem.W.keepIn K (.ref C_Taken) = true)
    (x_Taken : PySem.W.excIn K C_Taken [.type "ValueError", .type "Exception", .type "BaseException", .type "object"] "ValueError.__new__" = true)
    (s_InUse : PySem.W.subIn K (.ref C_InUse) (.type "BaseException") = some true)
    (t_InUse : PySem.W.typeIn K (.ref C_InUse) = some (.type "type"))
    (kc_InUse : PySem.W.keepIn K (.ref C_InUse) = true)
    (x_InUse : PySem.W.excIn K C_InUse [.type "ValueError", .type "Exception", .type "BaseException", .type "object"] "ValueError.__new__" = true)
    (s_NoEntry : PySem.W.subIn K (.ref C_NoEntry) (.type "BaseException") = some true)
    (t_NoEntry : PySem.W.typeIn K (.ref C_NoEntry) = some (.type "type"))
    (kc_NoEntry : PySem.W.keepIn K (.ref C_NoEntry) = true)
    (x_NoEntry : PySem.W.excIn K C_NoEntry [.type "ValueError", .type "Exception", .type "BaseException", .type "object"] "ValueError.__new__" = true)
    (s_NoThing : PySem.W.subIn K (.ref C_NoThing) (.type "BaseException") = some true)
    (t_NoThing : PySem.W.typeIn K (.ref C_NoThing) = some (.type "type"))
    (kc_NoThing : PySem.W.keepIn K (.ref C_NoThing) = true)
    (x_NoThing : PySem.W.excIn K C_NoThing [.type "ValueError", .type "Exception", .type "BaseException", .type "object"] "ValueError.__new__" = true)
    (s_NoNumber : PySem.W.subIn K (.ref C_NoNumber) (.type "BaseException") = some true)
    (t_NoNumber : PySem.W.typeIn K (.ref C_NoNumber) = some (.type "type"))
    (kc_NoNumber : PySem.W.keepIn K (.ref C_NoNumber) = true)
    (x_NoNumber : PySem.W.excIn K C_NoNumber [.type "ValueError", .type "Exception", .type "BaseException", .type "object"] "ValueError.__new__" = true)
    (s_NotAbove : PySem.W.subIn K (.ref C_NotAbove) (.type "BaseException") = some true)
    (t_NotAbove : PySem.W.typeIn K (.ref C_NotAbove) = some (.type "type"))
    (kc_NotAbove : PySem.W.keepIn K (.ref C_NotAbove) = true)
    (x_NotAbove : PySem.W.excIn K C_NotAbove [.type "ValueError", .type "Exception", .type "BaseException", .type "object"] "ValueError.__new__" = true)
    (s_Shut : PySem.W.subIn K (.ref C_Shut) (.type "BaseException") = some true)
    (t_Shut : PySem.W.typeIn K (.ref C_Shut) = some (.type "type"))
    (kc_Shut : PySem.W.keepIn K (.ref C_Shut) = true)
    (x_Shut : PySem.W.excIn K C_Shut [.type "ValueError", .type "Exception", .type "BaseException", .type "object"] "ValueError.__new__" = true)
    (s_NoText : PySem.W.subIn K (.ref C_NoText) (.type "BaseException") = some true)
    (t_NoText : PySem.W.typeIn K (.ref C_NoText) = some (.type "type"))
    (kc_NoText : PySem.W.keepIn K (.ref C_NoText) = true)
    (x_NoText : PySem.W.excIn K C_NoText [.type "ValueError", .type "Exception", .type "BaseException", .type "object"] "ValueError.__new__" = true)
    (s_NoRow : PySem.W.subIn K (.ref C_NoRow) (.type "BaseException") = some true)
    (t_NoRow : PySem.W.typeIn K (.ref C_NoRow) = some (.type "type"))
    (kc_NoRow : PySem.W.keepIn K (.ref C_NoRow) = true)
    (x_NoRow : PySem.W.excIn K C_NoRow [.type "ValueError", .type "Exception", .type "BaseException", .type "object"] "ValueError.__new__" = true)
    (s_Ring : PySem.W.subIn K (.ref C_Ring) (.type "BaseException") = some true)
    (t_Ring : PySem.W.typeIn K (.ref C_Ring) = some (.type "type"))
    (kc_Ring : PySem.W.keepIn K (.ref C_Ring) = true)
    (xl_Ring : K.lookup C_Ring = some (excClassObj nm_Ring q_Ring C_Ring N_Ring bs_Ring bm_Ring true sn_Ring sub_Ring ab_Ring col_Ring dd_Ring m0_Ring m1_Ring m2_Ring m3_Ring m5_Ring "ValueError.__new__"))
    (xr_Ring : PySem.HandSPX.refsVE bm_Ring = true)
    (sa_Ring : PySem.W.findIn K (.ref C_Ring) "__setattr__" = some (some (.builtin "object.__setattr__")))
    (ga_Ring : PySem.W.findIn K (.ref C_Ring) "__getattribute__" = some (some (.builtin "BaseException.__getattribute__")))
    (gg_Ring : PySem.W.findIn K (.ref C_Ring) "__getattr__" = some none)
    (hd_Ring : PySem.W.hasDictIn K C_Ring = true)
    (nf_Ring_kind : PySem.W.findIn K (.ref C_Ring) "kind" = some none)
    (nf_Ring_ring : PySem.W.findIn K (.ref C_Ring) "ring" = some none)
    (a_Ringi : PySem.W.findIn K (.ref C_Ring) "__init__" = some (some (.ref f_Ringi)))
    (l_Ringi : K.lookup f_Ringi = some ⟨oc_Ringi, od_Ringi, .func (PySem.W.fnOf "__init__" "Ring.__init__" (defArgs (inClass (topS 14) 0)) (defBody (inClass (topS 14) 0)) (defScope (inClass (topS 14) 0)) .none kv_Ringi dc_Ringi pm_Ringi an_Ringi cd_Ringi ct_Ringi), sl_Ringi⟩)
    (c_Ringi : PySem.W.codeIn K cd_Ringi "Ring.__init__" = true)
    (k_Ringi : PySem.W.keepIn K (.ref f_Ringi) = true)
    (ty_Ringi : PySem.W.typeIn K (.ref f_Ringi) = some (.type "function"))
    (s_Round : PySem.W.subIn K (.ref C_Round) (.type "BaseException") = some true)
    (t_Round : PySem.W.typeIn K (.ref C_Round) = some (.type "type"))
    (kc_Round : PySem.W.keepIn K (.ref C_Round) = true)
    (xl_Round : K.lookup C_Round = some (excClassObj nm_Round q_Round C_Round N_Round bs_Round bm_Round true sn_Round sub_Round ab_Round col_Round dd_Round m0_Round m1_Round m2_Round m3_Round m5_Round "ValueError.__new__"))
    (xr_Round : PySem.HandSPX.refsVE bm_Round = true)
    (sa_Round : PySem.W.findIn K (.ref C_Round) "__setattr__" = some (some (.builtin "object.__setattr__")))
    (ga_Round : PySem.W.findIn K (.ref C_Round) "__getattribute__" = some (some (.builtin "BaseException.__getattribute__")))
    (gg_Round : PySem.W.findIn K (.ref C_Round) "__getattr__" = some none)
    (hd_Round : PySem.W.hasDictIn K C_Round = true)
    (nf_Round_way : PySem.W.findIn K (.ref C_Round) "way" = some none)
    (a_Roundi : PySem.W.findIn K (.ref C_Round) "__init__" = some (some (.ref f_Roundi)))
    (l_Roundi : K.lookup f_Roundi = some ⟨oc_Roundi, od_Roundi, .func (PySem.W.fnOf "__init__" "Round.__init__" (defArgs (inClass (topS 15) 0)) (defBody (inClass (topS 15) 0)) (defScope (inClass (topS 15) 0)) .none kv_Roundi dc_Roundi pm_Roundi an_Roundi cd_Roundi ct_Roundi), sl_Roundi⟩)
    (c_Roundi : PySem.W.codeIn K cd_Roundi "Round.__init__" = true)
    (k_Roundi : PySem.W.keepIn K (.ref f_Roundi) = true)
    (ty_Roundi : PySem.W.typeIn K (.ref f_Roundi) = some (.type "function"))
    (s_Missing : PySem.W.subIn K (.ref C_Missing) (.type "BaseException") = some true)
    (t_Missing : PySem.W.typeIn K (.ref C_Missing) = some (.type "type"))
    (kc_Missing : PySem.W.keepIn K (.ref C_Missing) = true)
    (xl_Missing : K.lookup C_Missing = some (excClassObj nm_Missing q_Missing C_Missing N_Missing bs_Missing bm_Missing true sn_Missing sub_Missing ab_Missing col_Missing dd_Missing m0_Missing m1_Missing m2_Missing m3_Missing m5_Missing "ValueError.__new__"))
    (xr_Missing : PySem.HandSPX.refsVE bm_Missing = true)
    (sa_Missing : PySem.W.findIn K (.ref C_Missing) "__setattr__" = some (some (.builtin "object.__setattr__")))
    (ga_Missing : PySem.W.findIn K (.ref C_Missing) "__getattribute__" = some (some (.builtin "BaseException.__getattribute__")))
    (gg_Missing : PySem.W.findIn K (.ref C_Missing) "__getattr__" = some none)
    (hd_Missing : PySem.W.hasDictIn K C_Missing = true)
    (nf_Missing_name : PySem.W.findIn K (.ref C_Missing) "name" = some none)
    (a_Missingi : PySem.W.findIn K (.ref C_Missing) "__init__" = some (some (.ref f_Missingi)))
    (l_Missingi : K.lookup f_Missingi = some ⟨oc_Missingi, od_Missingi, .func (PySem.W.fnOf "__init__" "Missing.__init__" (defArgs (inClass (topS 16) 0)) (defBody (inClass (topS 16) 0)) (defScope (inClass (topS 16) 0)) .none kv_Missingi dc_Missingi pm_Missingi an_Missingi cd_Missingi ct_Missingi), sl_Missingi⟩)
    (c_Missingi : PySem.W.codeIn K cd_Missingi "Missing.__init__" = true)
    (k_Missingi : PySem.W.keepIn K (.ref f_Missingi) = true)
    (ty_Missingi : PySem.W.typeIn K (.ref f_Missingi) = some (.type "function"))
    (s_Endless : PySem.W.subIn K (.ref C_Endless) (.type "BaseException") = some true)
    (t_Endless : PySem.W.typeIn K (.ref C_Endless) = some (.type "type"))
    (kc_Endless : PySem.W.keepIn K (.ref C_Endless) = true)
    (xl_Endless : K.lookup C_Endless = some (excClassObj nm_Endless q_Endless C_Endless N_Endless bs_Endless bm_Endless true sn_Endless sub_Endless ab_Endless col_Endless dd_Endless m0_Endless m1_Endless m2_Endless m3_Endless m5_Endless "ValueError.__new__"))
    (xr_Endless : PySem.HandSPX.refsVE bm_Endless = true)
    (sa_Endless : PySem.W.findIn K (.ref C_Endless) "__setattr__" = some (some (.builtin "object.__setattr__")))
    (ga_Endless : PySem.W.findIn K (.ref C_Endless) "__getattribute__" = some (some (.builtin "BaseException.__getattribute__")))
    (gg_Endless : PySem.W.findIn K (.ref C_Endless) "__getattr__" = some none)
    (hd_Endless : PySem.W.hasDictIn K C_Endless = true)
    (nf_Endless_names : PySem.W.findIn K (.ref C_Endless) "names" = some none)
    (a_Endlessi : PySem.W.findIn K (.ref C_Endless) "__init__" = some (some (.ref f_Endlessi)))
    (l_Endlessi : K.lookup f_Endlessi = some ⟨oc_Endlessi, od_Endlessi, .func (PySem.W.fnOf "__init__" "Endless.__init__" (defArgs (inClass (topS 17) 0)) (defBody (inClass (topS 17) 0)) (defScope (inClass (topS 17) 0)) .none kv_Endlessi dc_Endlessi pm_Endlessi an_Endlessi cd_Endlessi ct_Endlessi), sl_Endlessi⟩)
    (c_Endlessi : PySem.W.codeIn K cd_Endlessi "Endless.__init__" = true)
    (k_Endlessi : PySem.W.keepIn K (.ref f_Endlessi) = true)
    (ty_Endlessi : PySem.W.typeIn K (.ref f_Endlessi) = some (.type "function"))
    (rd_LE : PySem.W.readsIn K C_LineError (.type "type") = true)
    (sp_LE : PySem.W.specialIn K (.ref C_LineError) "__getattribute__" = some (some (.builtin "type.__getattribute__")))
    (fc_LE : PySem.W.findCls K (.ref C_LineError) (.type "type") "__init__" = some (.val (.builtin "ValueError.__init__")))
    (eh_n : PySem.W.specialIn K (.builtin "object.__class__") "__get__" = some (some (.builtin "getset_descriptor.__get__")))
    (eh_t : PySem.W.takesIn K (.builtin "object.__class__") = some true)
    (eg_NoName : PySem.W.findIn K (.ref C_NoName) "__getattribute__" = some (some (.builtin "BaseException.__getattribute__")))
    (ek_NoName : PySem.W.findIn K (.ref C_NoName) "__getattr__" = some none)
    (ed_NoName : PySem.W.hasDictIn K C_NoName = true)
    (ea_NoName : PySem.W.findIn K (.ref C_NoName) "__class__" = some (some (.builtin "object.__class__")))
    (em_NoName : PySem.W.mroIn K C_NoName (.type "object") = some true)
    (ev_NoName : PySem.W.subIn K (.ref C_NoName) (.type "ValueError") = some true)
    (eg_NoKind : PySem.W.findIn K (.ref C_NoKind) "__getattribute__" = some (some (.builtin "BaseException.__getattribute__")))
    (ek_NoKind : PySem.W.findIn K (.ref C_NoKind) "__getattr__" = some none)
    (ed_NoKind : PySem.W.hasDictIn K C_NoKind = true)
    (ea_NoKind : PySem.W.findIn K (.ref C_NoKind) "__class__" = some (some (.builtin "object.__class__")))
    (em_NoKind : PySem.W.mroIn K C_NoKind (.type "object") = some true)
    (ev_NoKind : PySem.W.subIn K (.ref C_NoKind) (.type "ValueError") = some true)
    (eg_NoParents : PySem.W.findIn K (.ref C_NoParents) "__getattribute__" = some (some (.builtin "BaseException.__getattribute__")))
    (ek_NoParents : PySem.W.findIn K (.ref C_NoParents) "__getattr__" = some none)
    (ed_NoParents : PySem.W.hasDictIn K C_NoParents = true)
    (ea_NoParents : PySem.W.findIn K (.ref C_NoParents) "__class__" = some (some (.builtin "object.__class__")))
    (em_NoParents : PySem.W.mroIn K C_NoParents (.type "object") = some true)
    (ev_NoParents : PySem.W.subIn K (.ref C_NoParents) (.type "ValueError") = some true)
    (eg_Taken : PySem.W.findIn K (.ref C_Taken) "__getattribute__" = some (some (.builtin "BaseException.__getattribute__")))
    (ek_Taken : PySem.W.findIn K (.ref C_Taken) "__getattr__" = some none)
    (ed_Taken : PySem.W.hasDictIn K C_Taken = true)
    (ea_Taken : PySem.W.findIn K (.ref C_Taken) "__class__" = some (some (.builtin "object.__class__")))
    (em_Taken : PySem.W.mroIn K C_Taken (.type "object") = some true)
    (ev_Taken : PySem.W.subIn K (.ref C_Taken) (.type "ValueError") = some true)
    (eg_InUse : PySem.W.findIn K (.ref C_InUse) "__getattribute__" = some (some (.builtin "BaseException.__getattribute__")))
    (ek_InUse : PySem.W.findIn K (.ref C_InUse) "__getattr__" = some none)
    (ed_InUse : PySem.W.hasDictIn K C_InUse = true)
    (ea_InUse : PySem.W.findIn K (.ref C_InUse) "__class__" = some (some (.builtin "object.__class__")))
    (em_InUse : PySem.W.mroIn K C_InUse (.type "object") = some true)
    (ev_InUse : PySem.W.subIn K (.ref C_InUse) (.type "ValueError") = some true)
    (eg_NoEntry : PySem.W.findIn K (.ref C_NoEntry) "__getattribute__" = some (some (.builtin "BaseException.__getattribute__")))
    (ek_NoEntry : PySem.W.findIn K (.ref C_NoEntry) "__getattr__" = some none)
    (ed_NoEntry : PySem.W.hasDictIn K C_NoEntry = true)
    (ea_NoEntry : PySem.W.findIn K (.ref C_NoEntry) "__class__" = some (some (.builtin "object.__class__")))
    (em_NoEntry : PySem.W.mroIn K C_NoEntry (.type "object") = some true)
    (ev_NoEntry : PySem.W.subIn K (.ref C_NoEntry) (.type "ValueError") = some true)
    (eg_NoThing : PySem.W.findIn K (.ref C_NoThing) "__getattribute__" = some (some (.builtin "BaseException.__getattribute__")))
    (ek_NoThing : PySem.W.findIn K (.ref C_NoThing) "__getattr__" = some none)
    (ed_NoThing : PySem.W.hasDictIn K C_NoThing = true)
    (ea_NoThing : PySem.W.findIn K (.ref C_NoThing) "__class__" = some (some (.builtin "object.__class__")))
    (em_NoThing : PySem.W.mroIn K C_NoThing (.type "object") = some true)
    (ev_NoThing : PySem.W.subIn K (.ref C_NoThing) (.type "ValueError") = some true)
    (eg_NoNumber : PySem.W.findIn K (.ref C_NoNumber) "__getattribute__" = some (some (.builtin "BaseException.__getattribute__")))
    (ek_NoNumber : PySem.W.findIn K (.ref C_NoNumber) "__getattr__" = some none)
    (ed_NoNumber : PySem.W.hasDictIn K C_NoNumber = true)
    (ea_NoNumber : PySem.W.findIn K (.ref C_NoNumber) "__class__" = some (some (.builtin "object.__class__")))
    (em_NoNumber : PySem.W.mroIn K C_NoNumber (.type "object") = some true)
    (ev_NoNumber : PySem.W.subIn K (.ref C_NoNumber) (.type "ValueError") = some true)
    (eg_NotAbove : PySem.W.findIn K (.ref C_NotAbove) "__getattribute__" = some (some (.builtin "BaseException.__getattribute__")))
    (ek_NotAbove : PySem.W.findIn K (.ref C_NotAbove) "__getattr__" = some none)
    (ed_NotAbove : PySem.W.hasDictIn K C_NotAbove = true)
    (ea_NotAbove : PySem.W.findIn K (.ref C_NotAbove) "__class__" = some (some (.builtin "object.__class__")))
    (em_NotAbove : PySem.W.mroIn K C_NotAbove (.type "object") = some true)
    (ev_NotAbove : PySem.W.subIn K (.ref C_NotAbove) (.type "ValueError") = some true)
    (eg_Shut : PySem.W.findIn K (.ref C_Shut) "__getattribute__" = some (some (.builtin "BaseException.__getattribute__")))
    (ek_Shut : PySem.W.findIn K (.ref C_Shut) "__getattr__" = some none)
    (ed_Shut : PySem.W.hasDictIn K C_Shut = true)
    (ea_Shut : PySem.W.findIn K (.ref C_Shut) "__class__" = some (some (.builtin "object.__class__")))
    (em_Shut : PySem.W.mroIn K C_Shut (.type "object") = some true)
    (ev_Shut : PySem.W.subIn K (.ref C_Shut) (.type "ValueError") = some true)
    (eg_NoText : PySem.W.findIn K (.ref C_NoText) "__getattribute__" = some (some (.builtin "BaseException.__getattribute__")))
    (ek_NoText : PySem.W.findIn K (.ref C_NoText) "__getattr__" = some none)
    (ed_NoText : PySem.W.hasDictIn K C_NoText = true)
    (ea_NoText : PySem.W.findIn K (.ref C_NoText) "__class__" = some (some (.builtin "object.__class__")))
    (em_NoText : PySem.W.mroIn K C_NoText (.type "object") = some true)
    (ev_NoText : PySem.W.subIn K (.ref C_NoText) (.type "ValueError") = some true)
    (eg_NoRow : PySem.W.findIn K (.ref C_NoRow) "__getattribute__" = some (some (.builtin "BaseException.__getattribute__")))
    (ek_NoRow : PySem.W.findIn K (.ref C_NoRow) "__getattr__" = some none)
    (ed_NoRow : PySem.W.hasDictIn K C_NoRow = true)
    (ea_NoRow : PySem.W.findIn K (.ref C_NoRow) "__class__" = some (some (.builtin "object.__class__")))
    (em_NoRow : PySem.W.mroIn K C_NoRow (.type "object") = some true)
    (ev_NoRow : PySem.W.subIn K (.ref C_NoRow) (.type "ValueError") = some true)
    (eg_Ring : PySem.W.findIn K (.ref C_Ring) "__getattribute__" = some (some (.builtin "BaseException.__getattribute__")))
    (ek_Ring : PySem.W.findIn K (.ref C_Ring) "__getattr__" = some none)
    (ed_Ring : PySem.W.hasDictIn K C_Ring = true)
    (ea_Ring : PySem.W.findIn K (.ref C_Ring) "__class__" = some (some (.builtin "object.__class__")))
    (em_Ring : PySem.W.mroIn K C_Ring (.type "object") = some true)
    (ev_Ring : PySem.W.subIn K (.ref C_Ring) (.type "ValueError") = some true)
    (eg_Round : PySem.W.findIn K (.ref C_Round) "__getattribute__" = some (some (.builtin "BaseException.__getattribute__")))
    (ek_Round : PySem.W.findIn K (.ref C_Round) "__getattr__" = some none)
    (ed_Round : PySem.W.hasDictIn K C_Round = true)
    (ea_Round : PySem.W.findIn K (.ref C_Round) "__class__" = some (some (.builtin "object.__class__")))
    (em_Round : PySem.W.mroIn K C_Round (.type "object") = some true)
    (ev_Round : PySem.W.subIn K (.ref C_Round) (.type "ValueError") = some true)
    (eg_Missing : PySem.W.findIn K (.ref C_Missing) "__getattribute__" = some (some (.builtin "BaseException.__getattribute__")))
    (ek_Missing : PySem.W.findIn K (.ref C_Missing) "__getattr__" = some none)
    (ed_Missing : PySem.W.hasDictIn K C_Missing = true)
    (ea_Missing : PySem.W.findIn K (.ref C_Missing) "__class__" = some (some (.builtin "object.__class__")))
    (em_Missing : PySem.W.mroIn K C_Missing (.type "object") = some true)
    (ev_Missing : PySem.W.subIn K (.ref C_Missing) (.type "ValueError") = some true)
    (eg_Endless : PySem.W.findIn K (.ref C_Endless) "__getattribute__" = some (some (.builtin "BaseException.__getattribute__")))
    (ek_Endless : PySem.W.findIn K (.ref C_Endless) "__getattr__" = some none)
    (ed_Endless : PySem.W.hasDictIn K C_Endless = true)
    (ea_Endless : PySem.W.findIn K (.ref C_Endless) "__class__" = some (some (.builtin "object.__class__")))
    (em_Endless : PySem.W.mroIn K C_Endless (.type "object") = some true)
    (ev_Endless : PySem.W.subIn K (.ref C_Endless) (.type "ValueError") = some true)
    (sf_NoName : PySem.W.selfFirst K C_NoName = true)
    (si_NoName_NoName : PySem.W.subIn K (.ref C_NoName) (.ref C_NoName) = some true)
    (si_NoKind_NoName : PySem.W.subIn K (.ref C_NoKind) (.ref C_NoName) = some false)
    (si_NoParents_NoName : PySem.W.subIn K (.ref C_NoParents) (.ref C_NoName) = some false)
    (si_Taken_NoName : PySem.W.subIn K (.ref C_Taken) (.ref C_NoName) = some false)
    (si_InUse_NoName : PySem.W.subIn K (.ref C_InUse) (.ref C_NoName) = some false)
    (si_NoEntry_NoName : PySem.W.subIn K (.ref C_NoEntry) (.ref C_NoName) = some false)
    (si_NoThing_NoName : PySem.W.subIn K (.ref C_NoThing) (.ref C_NoName) = some false)
    (si_NoNumber_NoName : PySem.W.subIn K (.ref C_NoNumber) (.ref C_NoName) = some false)
    (si_NotAbove_NoName : PySem.W.subIn K (.ref C_NotAbove) (.ref C_NoName) = some false)
    (si_Shut_NoName : PySem.W.subIn K (.ref C_Shut) (.ref C_NoName) = some false)
    (si_NoText_NoName : PySem.W.subIn K (.ref C_NoText) (.ref C_NoName) = some false)
    (si_NoRow_NoName : PySem.W.subIn K (.ref C_NoRow) (.ref C_NoName) = some false)
    (si_Ring_NoName : PySem.W.subIn K (.ref C_Ring) (.ref C_NoName) = some false)
    (si_Round_NoName : PySem.W.subIn K (.ref C_Round) (.ref C_NoName) = some false)
    (si_Missing_NoName : PySem.W.subIn K (.ref C_Missing) (.ref C_NoName) = some false)
    (si_Endless_NoName : PySem.W.subIn K (.ref C_Endless) (.ref C_NoName) = some false)
    (sf_NoKind : PySem.W.selfFirst K C_NoKind = true)
    (si_NoName_NoKind : PySem.W.subIn K (.ref C_NoName) (.ref C_NoKind) = some false)
    (si_NoKind_NoKind : PySem.W.subIn K (.ref C_NoKind) (.ref C_NoKind) = some true)
    (si_NoParents_NoKind : PySem.W.subIn K (.ref C_NoParents) (.ref C_NoKind) = some false)
    (si_Taken_NoKind : PySem.W.subIn K (.ref C_Taken) (.ref C_NoKind) = some false)
    (si_InUse_NoKind : PySem.W.subIn K (.ref C_InUse) (.ref C_NoKind) = some false)
    (si_NoEntry_NoKind : PySem.W.subIn K (.ref C_NoEntry) (.ref C_NoKind) = some false)
    (si_NoThing_NoKind : PySem.W.subIn K (.ref C_NoThing) (.ref C_NoKind) = some false)
    (si_NoNumber_NoKind : PySem.W.subIn K (.ref C_NoNumber) (.ref C_NoKind) = some false)
    (si_NotAbove_NoKind : PySem.W.subIn K (.ref C_NotAbove) (.ref C_NoKind) = some false)
    (si_Shut_NoKind : PySem.W.subIn K (.ref C_Shut) (.ref C_NoKind) = some false)
    (si_NoText_NoKind : PySem.W.subIn K (.ref C_NoText) (.ref C_NoKind) = some false)
    (si_NoRow_NoKind : PySem.W.subIn K (.ref C_NoRow) (.ref C_NoKind) = some false)
    (si_Ring_NoKind : PySem.W.subIn K (.ref C_Ring) (.ref C_NoKind) = some false)
    (si_Round_NoKind : PySem.W.subIn K (.ref C_Round) (.ref C_NoKind) = some false)
    (si_Missing_NoKind : PySem.W.subIn K (.ref C_Missing) (.ref C_NoKind) = some false)
    (si_Endless_NoKind : PySem.W.subIn K (.ref C_Endless) (.ref C_NoKind) = some false)
    (sf_NoParents : PySem.W.selfFirst K C_NoParents = true)
    (si_NoName_NoParents : PySem.W.subIn K (.ref C_NoName) (.ref C_NoParents) = some false)
    (si_NoKind_NoParents : PySem.W.subIn K (.ref C_NoKind) (.ref C_NoParents) = some false)
    (si_NoParents_NoParents : PySem.W.subIn K (.ref C_NoParents) (.ref C_NoParents) = some true)
    (si_Taken_NoParents : PySem.W.subIn K (.ref C_Taken) (.ref C_NoParents) = some false)
    (si_InUse_NoParents : PySem.W.subIn K (.ref C_InUse) (.ref C_NoParents) = some false)
    (si_NoEntry_NoParents : PySem.W.subIn K (.ref C_NoEntry) (.ref C_NoParents) = some false)
    (si_NoThing_NoParents : PySem.W.subIn K (.ref C_NoThing) (.ref C_NoParents) = some false)
    (si_NoNumber_NoParents : PySem.W.subIn K (.ref C_NoNumber) (.ref C_NoParents) = some false)
    (si_NotAbove_NoParents : PySem.W.subIn K (.ref C_NotAbove) (.ref C_NoParents) = some false)
    (si_Shut_NoParents : PySem.W.subIn K (.ref C_Shut) (.ref C_NoParents) = some false)
    (si_NoText_NoParents : PySem.W.subIn K (.ref C_NoText) (.ref C_NoParents) = some false)
    (si_NoRow_NoParents : PySem.W.subIn K (.ref C_NoRow) (.ref C_NoParents) = some false)
    (si_Ring_NoParents : PySem.W.subIn K (.ref C_Ring) (.ref C_NoParents) = some false)
    (si_Round_NoParents : PySem.W.subIn K (.ref C_Round) (.ref C_NoParents) = some false)
    (si_Missing_NoParents : PySem.W.subIn K (.ref C_Missing) (.ref C_NoParents) = some false)
    (si_Endless_NoParents : PySem.W.subIn K (.ref C_Endless) (.ref C_NoParents) = some false)
    (sf_Taken : PySem.W.selfFirst K C_Taken = true)
    (si_NoName_Taken : PySem.W.subIn K (.ref C_NoName) (.ref C_Taken) = some false)
    (si_NoKind_Taken : PySem.W.subIn K (.ref C_NoKind) (.ref C_Taken) = some false)
    (si_NoParents_Taken : PySem.W.subIn K (.ref C_NoParents) (.ref C_Taken) = some false)
    (si_Taken_Taken : PySem.W.subIn K (.ref C_Taken) (.ref C_Taken) = some true)
    (si_InUse_Taken : PySem.W.subIn K (.ref C_InUse) (.ref C_Taken) = some false)
    (si_NoEntry_Taken : PySem.W.subIn K (.ref C_NoEntry) (.ref C_Taken) = some false)
    (si_NoThing_Taken : PySem.W.subIn K (.ref C_NoThing) (.ref C_Taken) = some false)
    (si_NoNumber_Taken : PySem.W.subIn K (.ref C_NoNumber) (.ref C_Taken) = some false)
    (si_NotAbove_Taken : PySem.W.subIn K (.ref C_NotAbove) (.ref C_Taken) = some false)
    (si_Shut_Taken : PySem.W.subIn K (.ref C_Shut) (.ref C_Taken) = some false)
    (si_NoText_Taken : PySem.W.subIn K (.ref C_NoText) (.ref C_Taken) = some false)
    (si_NoRow_Taken : PySem.W.subIn K (.ref C_NoRow) (.ref C_Taken) = some false)
    (si_Ring_Taken : PySem.W.subIn K (.ref C_Ring) (.ref C_Taken) = some false)
    (si_Round_Taken : PySem.W.subIn K (.ref C_Round) (.ref C_Taken) = some false)
    (si_Missing_Taken : PySem.W.subIn K (.ref C_Missing) (.ref C_Taken) = some false)
    (si_Endless_Taken : PySem.W.subIn K (.ref C_Endless) (.ref C_Taken) = some false)
    (sf_InUse : PySem.W.selfFirst K C_InUse = true)
    (si_NoName_InUse : PySem.W.subIn K (.ref C_NoName) (.ref C_InUse) = some false)
    (si_NoKind_InUse : PySem.W.subIn K (.ref C_NoKind) (.ref C_InUse) = some false)
    (si_NoParents_InUse : PySem.W.subIn K (.ref C_NoParents) (.ref C_InUse) = some false)
    (si_Taken_InUse : PySem.W.subIn K (.ref C_Taken) (.ref C_InUse) = some false)
    (si_InUse_InUse : PySem.W.subIn K (.ref C_InUse) (.ref C_InUse) = some true)
    (si_NoEntry_InUse : PySem.W.subIn K (.ref C_NoEntry) (.ref C_InUse) = some false)
    (si_NoThing_InUse : PySem.W.subIn K (.ref C_NoThing) (.ref C_InUse) = some false)
    (si_NoNumber_InUse : PySem.W.subIn K (.ref C_NoNumber) (.ref C_InUse) = some false)
    (si_NotAbove_InUse : PySem.W.subIn K (.ref C_NotAbove) (.ref C_InUse) = some false)
    (si_Shut_InUse : PySem.W.subIn K (.ref C_Shut) (.ref C_InUse) = some false)
    (si_NoText_InUse : PySem.W.subIn K (.ref C_NoText) (.ref C_InUse) = some false)
    (si_NoRow_InUse : PySem.W.subIn K (.ref C_NoRow) (.ref C_InUse) = some false)
    (si_Ring_InUse : PySem.W.subIn K (.ref C_Ring) (.ref C_InUse) = some false)
    (si_Round_InUse : PySem.W.subIn K (.ref C_Round) (.ref C_InUse) = some false)
    (si_Missing_InUse : PySem.W.subIn K (.ref C_Missing) (.ref C_InUse) = some false)
    (si_Endless_InUse : PySem.W.subIn K (.ref C_Endless) (.ref C_InUse) = some false)
    (sf_NoEntry : PySem.W.selfFirst K C_NoEntry = true)
    (si_NoName_NoEntry : PySem.W.subIn K (.ref C_NoName) (.ref C_NoEntry) = some false)
    (si_NoKind_NoEntry : PySem.W.subIn K (.ref C_NoKind) (.ref C_NoEntry) = some false)
    (si_NoParents_NoEntry : PySem.W.subIn K (.ref C_NoParents) (.ref C_NoEntry) = some false)
    (si_Taken_NoEntry : PySem.W.subIn K (.ref C_Taken) (.ref C_NoEntry) = some false)
    (si_InUse_NoEntry : PySem.W.subIn K (.ref C_InUse) (.ref C_NoEntry) = some false)
    (si_NoEntry_NoEntry : PySem.W.subIn K (.ref C_NoEntry) (.ref C_NoEntry) = some true)
    (si_NoThing_NoEntry : PySem.W.subIn K (.ref C_NoThing) (.ref C_NoEntry) = some false)
    (si_NoNumber_NoEntry : PySem.W.subIn K (.ref C_NoNumber) (.ref C_NoEntry) = some false)
    (si_NotAbove_NoEntry : PySem.W.subIn K (.ref C_NotAbove) (.ref C_NoEntry) = some false)
    (si_Shut_NoEntry : PySem.W.subIn K (.ref C_Shut) (.ref C_NoEntry) = some false)
    (si_NoText_NoEntry : PySem.W.subIn K (.ref C_NoText) (.ref C_NoEntry) = some false)
    (si_NoRow_NoEntry : PySem.W.subIn K (.ref C_NoRow) (.ref C_NoEntry) = some false)
    (si_Ring_NoEntry : PySem.W.subIn K (.ref C_Ring) (.ref C_NoEntry) = some false)
    (si_Round_NoEntry : PySem.W.subIn K (.ref C_Round) (.ref C_NoEntry) = some false)
    (si_Missing_NoEntry : PySem.W.subIn K (.ref C_Missing) (.ref C_NoEntry) = some false)
    (si_Endless_NoEntry : PySem.W.subIn K (.ref C_Endless) (.ref C_NoEntry) = some false)
    (sf_NoThing : PySem.W.selfFirst K C_NoThing = true)
    (si_NoName_NoThing : PySem.W.subIn K (.ref C_NoName) (.ref C_NoThing) = some false)
    (si_NoKind_NoThing : PySem.W.subIn K (.ref C_NoKind) (.ref C_NoThing) = some false)
    (si_NoParents_NoThing : PySem.W.subIn K (.ref C_NoParents) (.ref C_NoThing) = some false)
    (si_Taken_NoThing : PySem.W.subIn K (.ref C_Taken) (.ref C_NoThing) = some false)
    (si_InUse_NoThing : PySem.W.subIn K (.ref C_InUse) (.ref C_NoThing) = some false)
    (si_NoEntry_NoThing : PySem.W.subIn K (.ref C_NoEntry) (.ref C_NoThing) = some false)
    (si_NoThing_NoThing : PySem.W.subIn K (.ref C_NoThing) (.ref C_NoThing) = some true)
    (si_NoNumber_NoThing : PySem.W.subIn K (.ref C_NoNumber) (.ref C_NoThing) = some false)
    (si_NotAbove_NoThing : PySem.W.subIn K (.ref C_NotAbove) (.ref C_NoThing) = some false)
    (si_Shut_NoThing : PySem.W.subIn K (.ref C_Shut) (.ref C_NoThing) = some false)
    (si_NoText_NoThing : PySem.W.subIn K (.ref C_NoText) (.ref C_NoThing) = some false)
    (si_NoRow_NoThing : PySem.W.subIn K (.ref C_NoRow) (.ref C_NoThing) = some false)
    (si_Ring_NoThing : PySem.W.subIn K (.ref C_Ring) (.ref C_NoThing) = some false)
    (si_Round_NoThing : PySem.W.subIn K (.ref C_Round) (.ref C_NoThing) = some false)
    (si_Missing_NoThing : PySem.W.subIn K (.ref C_Missing) (.ref C_NoThing) = some false)
    (si_Endless_NoThing : PySem.W.subIn K (.ref C_Endless) (.ref C_NoThing) = some false)
    (sf_NoNumber : PySem.W.selfFirst K C_NoNumber = true)
    (si_NoName_NoNumber : PySem.W.subIn K (.ref C_NoName) (.ref C_NoNumber) = some false)
    (si_NoKind_NoNumber : PySem.W.subIn K (.ref C_NoKind) (.ref C_NoNumber) = some false)
    (si_NoParents_NoNumber : PySem.W.subIn K (.ref C_NoParents) (.ref C_NoNumber) = some false)
    (si_Taken_NoNumber : PySem.W.subIn K (.ref C_Taken) (.ref C_NoNumber) = some false)
    (si_InUse_NoNumber : PySem.W.subIn K (.ref C_InUse) (.ref C_NoNumber) = some false)
    (si_NoEntry_NoNumber : PySem.W.subIn K (.ref C_NoEntry) (.ref C_NoNumber) = some false)
    (si_NoThing_NoNumber : PySem.W.subIn K (.ref C_NoThing) (.ref C_NoNumber) = some false)
    (si_NoNumber_NoNumber : PySem.W.subIn K (.ref C_NoNumber) (.ref C_NoNumber) = some true)
    (si_NotAbove_NoNumber : PySem.W.subIn K (.ref C_NotAbove) (.ref C_NoNumber) = some false)
    (si_Shut_NoNumber : PySem.W.subIn K (.ref C_Shut) (.ref C_NoNumber) = some false)
    (si_NoText_NoNumber : PySem.W.subIn K (.ref C_NoText) (.ref C_NoNumber) = some false)
    (si_NoRow_NoNumber : PySem.W.subIn K (.ref C_NoRow) (.ref C_NoNumber) = some false)
    (si_Ring_NoNumber : PySem.W.subIn K (.ref C_Ring) (.ref C_NoNumber) = some false)
    (si_Round_NoNumber : PySem.W.subIn K (.ref C_Round) (.ref C_NoNumber) = some false)
    (si_Missing_NoNumber : PySem.W.subIn K (.ref C_Missing) (.ref C_NoNumber) = some false)
    (si_Endless_NoNumber : PySem.W.subIn K (.ref C_Endless) (.ref C_NoNumber) = some false)
    (sf_NotAbove : PySem.W.selfFirst K C_NotAbove = true)
    (si_NoName_NotAbove : PySem.W.subIn K (.ref C_NoName) (.ref C_NotAbove) = some false)
    (si_NoKind_NotAbove : PySem.W.subIn K (.ref C_NoKind) (.ref C_NotAbove) = some false)
    (si_NoParents_NotAbove : PySem.W.subIn K (.ref C_NoParents) (.ref C_NotAbove) = some false)
    (si_Taken_NotAbove : PySem.W.subIn K (.ref C_Taken) (.ref C_NotAbove) = some false)
    (si_InUse_NotAbove : PySem.W.subIn K (.ref C_InUse) (.ref C_NotAbove) = some false)
    (si_NoEntry_NotAbove : PySem.W.subIn K (.ref C_NoEntry) (.ref C_NotAbove) = some false)
    (si_NoThing_NotAbove : PySem.W.subIn K (.ref C_NoThing) (.ref C_NotAbove) = some false)
    (si_NoNumber_NotAbove : PySem.W.subIn K (.ref C_NoNumber) (.ref C_NotAbove) = some false)
    (si_NotAbove_NotAbove : PySem.W.subIn K (.ref C_NotAbove) (.ref C_NotAbove) = some true)
    (si_Shut_NotAbove : PySem.W.subIn K (.ref C_Shut) (.ref C_NotAbove) = some false)
    (si_NoText_NotAbove : PySem.W.subIn K (.ref C_NoText) (.ref C_NotAbove) = some false)
    (si_NoRow_NotAbove : PySem.W.subIn K (.ref C_NoRow) (.ref C_NotAbove) = some false)
    (si_Ring_NotAbove : PySem.W.subIn K (.ref C_Ring) (.ref C_NotAbove) = some false)
    (si_Round_NotAbove : PySem.W.subIn K (.ref C_Round) (.ref C_NotAbove) = some false)
    (si_Missing_NotAbove : PySem.W.subIn K (.ref C_Missing) (.ref C_NotAbove) = some false)
    (si_Endless_NotAbove : PySem.W.subIn K (.ref C_Endless) (.ref C_NotAbove) = some false)
    (sf_Shut : PySem.W.selfFirst K C_Shut = true)
    (si_NoName_Shut : PySem.W.subIn K (.ref C_NoName) (.ref C_Shut) = some false)
    (si_NoKind_Shut : PySem.W.subIn K (.ref C_NoKind) (.ref C_Shut) = some false)
    (si_NoParents_Shut : PySem.W.subIn K (.ref C_NoParents) (.ref C_Shut) = some false)
    (si_Taken_Shut : PySem.W.subIn K (.ref C_Taken) (.ref C_Shut) = some false)
    (si_InUse_Shut : PySem.W.subIn K (.ref C_InUse) (.ref C_Shut) = some false)
    (si_NoEntry_Shut : PySem.W.subIn K (.ref C_NoEntry) (.ref C_Shut) = some false)
    (si_NoThing_Shut : PySem.W.subIn K (.ref C_NoThing) (.ref C_Shut) = some false)
    (si_NoNumber_Shut : PySem.W.subIn K (.ref C_NoNumber) (.ref C_Shut) = some false)
    (si_NotAbove_Shut : PySem.W.subIn K (.ref C_NotAbove) (.ref C_Shut) = some false)
    (si_Shut_Shut : PySem.W.subIn K (.ref C_Shut) (.ref C_Shut) = some true)
    (si_NoText_Shut : PySem.W.subIn K (.ref C_NoText) (.ref C_Shut) = some false)
    (si_NoRow_Shut : PySem.W.subIn K (.ref C_NoRow) (.ref C_Shut) = some false)
    (si_Ring_Shut : PySem.W.subIn K (.ref C_Ring) (.ref C_Shut) = some false)
    (si_Round_Shut : PySem.W.subIn K (.ref C_Round) (.ref C_Shut) = some false)
    (si_Missing_Shut : PySem.W.subIn K (.ref C_Missing) (.ref C_Shut) = some false)
    (si_Endless_Shut : PySem.W.subIn K (.ref C_Endless) (.ref C_Shut) = some false)
    (sf_NoText : PySem.W.selfFirst K C_NoText = true)
    (si_NoName_NoText : PySem.W.subIn K (.ref C_NoName) (.ref C_NoText) = some false)
    (si_NoKind_NoText : PySem.W.subIn K (.ref C_NoKind) (.ref C_NoText) = some false)
    (si_NoParents_NoText : PySem.W.subIn K (.ref C_NoParents) (.ref C_NoText) = some false)
    (si_Taken_NoText : PySem.W.subIn K (.ref C_Taken) (.ref C_NoText) = some false)
    (si_InUse_NoText : PySem.W.subIn K (.ref C_InUse) (.ref C_NoText) = some false)
    (si_NoEntry_NoText : PySem.W.subIn K (.ref C_NoEntry) (.ref C_NoText) = some false)
    (si_NoThing_NoText : PySem.W.subIn K (.ref C_NoThing) (.ref C_NoText) = some false)
    (si_NoNumber_NoText : PySem.W.subIn K (.ref C_NoNumber) (.ref C_NoText) = some false)
    (si_NotAbove_NoText : PySem.W.subIn K (.ref C_NotAbove) (.ref C_NoText) = some false)
    (si_Shut_NoText : PySem.W.subIn K (.ref C_Shut) (.ref C_NoText) = some false)
    (si_NoText_NoText : PySem.W.subIn K (.ref C_NoText) (.ref C_NoText) = some true)
    (si_NoRow_NoText : PySem.W.subIn K (.ref C_NoRow) (.ref C_NoText) = some false)
    (si_Ring_NoText : PySem.W.subIn K (.ref C_Ring) (.ref C_NoText) = some false)
    (si_Round_NoText : PySem.W.subIn K (.ref C_Round) (.ref C_NoText) = some false)
    (si_Missing_NoText : PySem.W.subIn K (.ref C_Missing) (.ref C_NoText) = some false)
    (si_Endless_NoText : PySem.W.subIn K (.ref C_Endless) (.ref C_NoText) = some false)
    (sf_NoRow : PySem.W.selfFirst K C_NoRow = true)
    (si_NoName_NoRow : PySem.W.subIn K (.ref C_NoName) (.ref C_NoRow) = some false)
    (si_NoKind_NoRow : PySem.W.subIn K (.ref C_NoKind) (.ref C_NoRow) = some false)
    (si_NoParents_NoRow : PySem.W.subIn K (.ref C_NoParents) (.ref C_NoRow) = some false)
    (si_Taken_NoRow : PySem.W.subIn K (.ref C_Taken) (.ref C_NoRow) = some false)
    (si_InUse_NoRow : PySem.W.subIn K (.ref C_InUse) (.ref C_NoRow) = some false)
    (si_NoEntry_NoRow : PySem.W.subIn K (.ref C_NoEntry) (.ref C_NoRow) = some false)
    (si_NoThing_NoRow : PySem.W.subIn K (.ref C_NoThing) (.ref C_NoRow) = some false)
    (si_NoNumber_NoRow : PySem.W.subIn K (.ref C_NoNumber) (.ref C_NoRow) = some false)
    (si_NotAbove_NoRow : PySem.W.subIn K (.ref C_NotAbove) (.ref C_NoRow) = some false)
    (si_Shut_NoRow : PySem.W.subIn K (.ref C_Shut) (.ref C_NoRow) = some false)
    (si_NoText_NoRow : PySem.W.subIn K (.ref C_NoText) (.ref C_NoRow) = some false)
    (si_NoRow_NoRow : PySem.W.subIn K (.ref C_NoRow) (.ref C_NoRow) = some true)
    (si_Ring_NoRow : PySem.W.subIn K (.ref C_Ring) (.ref C_NoRow) = some false)
    (si_Round_NoRow : PySem.W.subIn K (.ref C_Round) (.ref C_NoRow) = some false)
    (si_Missing_NoRow : PySem.W.subIn K (.ref C_Missing) (.ref C_NoRow) = some false)
    (si_Endless_NoRow : PySem.W.subIn K (.ref C_Endless) (.ref C_NoRow) = some false)
    (sf_Ring : PySem.W.selfFirst K C_Ring = true)
    (si_NoName_Ring : PySem.W.subIn K (.ref C_NoName) (.ref C_Ring) = some false)
    (si_NoKind_Ring : PySem.W.subIn K (.ref C_NoKind) (.ref C_Ring) = some false)
    (si_NoParents_Ring : PySem.W.subIn K (.ref C_NoParents) (.ref C_Ring) = some false)
    (si_Taken_Ring : PySem.W.subIn K (.ref C_Taken) (.ref C_Ring) = some false)
    (si_InUse_Ring : PySem.W.subIn K (.ref C_InUse) (.ref C_Ring) = some false)
    (si_NoEntry_Ring : PySem.W.subIn K (.ref C_NoEntry) (.ref C_Ring) = some false)
    (si_NoThing_Ring : PySem.W.subIn K (.ref C_NoThing) (.ref C_Ring) = some false)
    (si_NoNumber_Ring : PySem.W.subIn K (.ref C_NoNumber) (.ref C_Ring) = some false)
    (si_NotAbove_Ring : PySem.W.subIn K (.ref C_NotAbove) (.ref C_Ring) = some false)
    (si_Shut_Ring : PySem.W.subIn K (.ref C_Shut) (.ref C_Ring) = some false)
    (si_NoText_Ring : PySem.W.subIn K (.ref C_NoText) (.ref C_Ring) = some false)
    (si_NoRow_Ring : PySem.W.subIn K (.ref C_NoRow) (.ref C_Ring) = some false)
    (si_Ring_Ring : PySem.W.subIn K (.ref C_Ring) (.ref C_Ring) = some true)
    (si_Round_Ring : PySem.W.subIn K (.ref C_Round) (.ref C_Ring) = some false)
    (si_Missing_Ring : PySem.W.subIn K (.ref C_Missing) (.ref C_Ring) = some false)
    (si_Endless_Ring : PySem.W.subIn K (.ref C_Endless) (.ref C_Ring) = some false)
    (sf_Round : PySem.W.selfFirst K C_Round = true)
    (si_NoName_Round : PySem.W.subIn K (.ref C_NoName) (.ref C_Round) = some false)
    (si_NoKind_Round : PySem.W.subIn K (.ref C_NoKind) (.ref C_Round) = some false)
    (si_NoParents_Round : PySem.W.subIn K (.ref C_NoParents) (.ref C_Round) = some false)
    (si_Taken_Round : PySem.W.subIn K (.ref C_Taken) (.ref C_Round) = some false)
    (si_InUse_Round : PySem.W.subIn K (.ref C_InUse) (.ref C_Round) = some false)
    (si_NoEntry_Round : PySem.W.subIn K (.ref C_NoEntry) (.ref C_Round) = some false)
    (si_NoThing_Round : PySem.W.subIn K (.ref C_NoThing) (.ref C_Round) = some false)
    (si_NoNumber_Round : PySem.W.subIn K (.ref C_NoNumber) (.ref C_Round) = some false)
    (si_NotAbove_Round : PySem.W.subIn K (.ref C_NotAbove) (.ref C_Round) = some false)
    (si_Shut_Round : PySem.W.subIn K (.ref C_Shut) (.ref C_Round) = some false)
    (si_NoText_Round : PySem.W.subIn K (.ref C_NoText) (.ref C_Round) = some false)
    (si_NoRow_Round : PySem.W.subIn K (.ref C_NoRow) (.ref C_Round) = some false)
    (si_Ring_Round : PySem.W.subIn K (.ref C_Ring) (.ref C_Round) = some false)
    (si_Round_Round : PySem.W.subIn K (.ref C_Round) (.ref C_Round) = some true)
    (si_Missing_Round : PySem.W.subIn K (.ref C_Missing) (.ref C_Round) = some false)
    (si_Endless_Round : PySem.W.subIn K (.ref C_Endless) (.ref C_Round) = some false)
    (sf_Missing : PySem.W.selfFirst K C_Missing = true)
    (si_NoName_Missing : PySem.W.subIn K (.ref C_NoName) (.ref C_Missing) = some false)
    (si_NoKind_Missing : PySem.W.subIn K (.ref C_NoKind) (.ref C_Missing) = some false)
    (si_NoParents_Missing : PySem.W.subIn K (.ref C_NoParents) (.ref C_Missing) = some false)
    (si_Taken_Missing : PySem.W.subIn K (.ref C_Taken) (.ref C_Missing) = some false)
    (si_InUse_Missing : PySem.W.subIn K (.ref C_InUse) (.ref C_Missing) = some false)
    (si_NoEntry_Missing : PySem.W.subIn K (.ref C_NoEntry) (.ref C_Missing) = some false)
    (si_NoThing_Missing : PySem.W.subIn K (.ref C_NoThing) (.ref C_Missing) = some false)
    (si_NoNumber_Missing : PySem.W.subIn K (.ref C_NoNumber) (.ref C_Missing) = some false)
    (si_NotAbove_Missing : PySem.W.subIn K (.ref C_NotAbove) (.ref C_Missing) = some false)
    (si_Shut_Missing : PySem.W.subIn K (.ref C_Shut) (.ref C_Missing) = some false)
    (si_NoText_Missing : PySem.W.subIn K (.ref C_NoText) (.ref C_Missing) = some false)
    (si_NoRow_Missing : PySem.W.subIn K (.ref C_NoRow) (.ref C_Missing) = some false)
    (si_Ring_Missing : PySem.W.subIn K (.ref C_Ring) (.ref C_Missing) = some false)
    (si_Round_Missing : PySem.W.subIn K (.ref C_Round) (.ref C_Missing) = some false)
    (si_Missing_Missing : PySem.W.subIn K (.ref C_Missing) (.ref C_Missing) = some true)
    (si_Endless_Missing : PySem.W.subIn K (.ref C_Endless) (.ref C_Missing) = some false)
    (sf_Endless : PySem.W.selfFirst K C_Endless = true)
    (si_NoName_Endless : PySem.W.subIn K (.ref C_NoName) (.ref C_Endless) = some false)
    (si_NoKind_Endless : PySem.W.subIn K (.ref C_NoKind) (.ref C_Endless) = some false)
    (si_NoParents_Endless : PySem.W.subIn K (.ref C_NoParents) (.ref C_Endless) = some false)
    (si_Taken_Endless : PySem.W.subIn K (.ref C_Taken) (.ref C_Endless) = some false)
    (si_InUse_Endless : PySem.W.subIn K (.ref C_InUse) (.ref C_Endless) = some false)
    (si_NoEntry_Endless : PySem.W.subIn K (.ref C_NoEntry) (.ref C_Endless) = some false)
    (si_NoThing_Endless : PySem.W.subIn K (.ref C_NoThing) (.ref C_Endless) = some false)
    (si_NoNumber_Endless : PySem.W.subIn K (.ref C_NoNumber) (.ref C_Endless) = some false)
    (si_NotAbove_Endless : PySem.W.subIn K (.ref C_NotAbove) (.ref C_Endless) = some false)
    (si_Shut_Endless : PySem.W.subIn K (.ref C_Shut) (.ref C_Endless) = some false)
    (si_NoText_Endless : PySem.W.subIn K (.ref C_NoText) (.ref C_Endless) = some false)
    (si_NoRow_Endless : PySem.W.subIn K (.ref C_NoRow) (.ref C_Endless) = some false)
    (si_Ring_Endless : PySem.W.subIn K (.ref C_Ring) (.ref C_Endless) = some false)
    (si_Round_Endless : PySem.W.subIn K (.ref C_Round) (.ref C_Endless) = some false)
    (si_Missing_Endless : PySem.W.subIn K (.ref C_Missing) (.ref C_Endless) = some false)
    (si_Endless_Endless : PySem.W.subIn K (.ref C_Endless) (.ref C_Endless) = some true)
    (sf_LineError : PySem.W.selfFirst K C_LineError = true)
    (si_NoName_LineError : PySem.W.subIn K (.ref C_NoName) (.ref C_LineError) = some true)
    (si_NoKind_LineError : PySem.W.subIn K (.ref C_NoKind) (.ref C_LineError) = some true)
    (si_NoParents_LineError : PySem.W.subIn K (.ref C_NoParents) (.ref C_LineError) = some true)
    (si_Taken_LineError : PySem.W.subIn K (.ref C_Taken) (.ref C_LineError) = some true)
    (si_InUse_LineError : PySem.W.subIn K (.ref C_InUse) (.ref C_LineError) = some true)
    (si_NoEntry_LineError : PySem.W.subIn K (.ref C_NoEntry) (.ref C_LineError) = some true)
    (si_NoThing_LineError : PySem.W.subIn K (.ref C_NoThing) (.ref C_LineError) = some true)
    (si_NoNumber_LineError : PySem.W.subIn K (.ref C_NoNumber) (.ref C_LineError) = some true)
    (si_NotAbove_LineError : PySem.W.subIn K (.ref C_NotAbove) (.ref C_LineError) = some true)
    (si_Shut_LineError : PySem.W.subIn K (.ref C_Shut) (.ref C_LineError) = some true)
    (si_NoText_LineError : PySem.W.subIn K (.ref C_NoText) (.ref C_LineError) = some true)
    (si_NoRow_LineError : PySem.W.subIn K (.ref C_NoRow) (.ref C_LineError) = some true)
    (si_Ring_LineError : PySem.W.subIn K (.ref C_Ring) (.ref C_LineError) = some true)
    (si_Round_LineError : PySem.W.subIn K (.ref C_Round) (.ref C_LineError) = some true)
    (si_Missing_LineError : PySem.W.subIn K (.ref C_Missing) (.ref C_LineError) = some true)
    (si_Endless_LineError : PySem.W.subIn K (.ref C_Endless) (.ref C_LineError) = some true)
    (b_ValueError : PySem.W.nsIn K mainGlobals "ValueError" = some none)
    (a__law_pot : PySem.W.nsIn K mainGlobals "_law_pot" = some (some (.ref f__law_pot)))
    (l__law_pot : K.lookup f__law_pot = some ⟨oc__law_pot, od__law_pot, .func (PySem.W.fnOf "_law_pot" "_law_pot" (defArgs s__law_pot) (defBody s__law_pot) (defScope s__law_pot) .none kv__law_pot dc__law_pot pm__law_pot an__law_pot cd__law_pot ct__law_pot), sl__law_pot⟩)
    (c__law_pot : PySem.W.codeIn K cd__law_pot "_law_pot" = true)
    (k__law_pot : PySem.W.keepIn K (.ref f__law_pot) = true)
    (a__law_digit : PySem.W.nsIn K mainGlobals "_law_digit" = some (some (.ref f__law_digit)))
    (l__law_digit : K.lookup f__law_digit = some ⟨oc__law_digit, od__law_digit, .func (PySem.W.fnOf "_law_digit" "_law_digit" (defArgs s__law_digit) (defBody s__law_digit) (defScope s__law_digit) .none kv__law_digit dc__law_digit pm__law_digit an__law_digit cd__law_digit ct__law_digit), sl__law_digit⟩)
    (c__law_digit : PySem.W.codeIn K cd__law_digit "_law_digit" = true)
    (k__law_digit : PySem.W.keepIn K (.ref f__law_digit) = true)
    (a__law_names : PySem.W.nsIn K mainGlobals "_law_names" = some (some (.ref f__law_names)))
    (l__law_names : K.lookup f__law_names = some ⟨oc__law_names, od__law_names, .func (PySem.W.fnOf "_law_names" "_law_names" (defArgs s__law_names) (defBody s__law_names) (defScope s__law_names) .none kv__law_names dc__law_names pm__law_names an__law_names cd__law_names ct__law_names), sl__law_names⟩)
    (c__law_names : PySem.W.codeIn K cd__law_names "_law_names" = true)
    (k__law_names : PySem.W.keepIn K (.ref f__law_names) = true)
    (a__law_kinds : PySem.W.nsIn K mainGlobals "_law_kinds" = some (some (.ref f__law_kinds)))
    (l__law_kinds : K.lookup f__law_kinds = some ⟨oc__law_kinds, od__law_kinds, .func (PySem.W.fnOf "_law_kinds" "_law_kinds" (defArgs s__law_kinds) (defBody s__law_kinds) (defScope s__law_kinds) .none kv__law_kinds dc__law_kinds pm__law_kinds an__law_kinds cd__law_kinds ct__law_kinds), sl__law_kinds⟩)
    (c__law_kinds : PySem.W.codeIn K cd__law_kinds "_law_kinds" = true)
    (k__law_kinds : PySem.W.keepIn K (.ref f__law_kinds) = true)
    (a_law : PySem.W.nsIn K mainGlobals "law" = some (some (.ref f_law)))
    (l_law : K.lookup f_law = some ⟨oc_law, od_law, .func (PySem.W.fnOf "law" "law" (defArgs s_law) (defBody s_law) (defScope s_law) .none kv_law dc_law pm_law an_law cd_law ct_law), sl_law⟩)
    (c_law : PySem.W.codeIn K cd_law "law" = true)
    (k_law : PySem.W.keepIn K (.ref f_law) = true)
    (b_len : PySem.W.nsIn K mainGlobals "len" = some none)
    (b_abs : PySem.W.nsIn K mainGlobals "abs" = some none)
    (b_max : PySem.W.nsIn K mainGlobals "max" = some none)
    (b_min : PySem.W.nsIn K mainGlobals "min" = some none)
    (b_tuple : PySem.W.nsIn K mainGlobals "tuple" = some none)
    (b_list : PySem.W.nsIn K mainGlobals "list" = some none)
    (b_all : PySem.W.nsIn K mainGlobals "all" = some none)
    (b_any : PySem.W.nsIn K mainGlobals "any" = some none)
    (b_sorted : PySem.W.nsIn K mainGlobals "sorted" = some none)
    (b_set : PySem.W.nsIn K mainGlobals "set" = some none)
    (b_isinstance : PySem.W.nsIn K mainGlobals "isinstance" = some none)
    (b_range : PySem.W.nsIn K mainGlobals "range" = some none)
    (b_enumerate : PySem.W.nsIn K mainGlobals "enumerate" = some none)
    (b_zip : PySem.W.nsIn K mainGlobals "zip" = some none)
    (b_int : PySem.W.nsIn K mainGlobals "int" = some none)
    (b_str : PySem.W.nsIn K mainGlobals "str" = some none)
    (b_bool : PySem.W.nsIn K mainGlobals "bool" = some none)
    (b_dict : PySem.W.nsIn K mainGlobals "dict" = some none)
    (b_repr : PySem.W.nsIn K mainGlobals "repr" = some none)
    (b_sum : PySem.W.nsIn K mainGlobals "sum" = some none)
    (b_type : PySem.W.nsIn K mainGlobals "type" = some none)
    (b_reversed : PySem.W.nsIn K mainGlobals "reversed" = some none)
    (hlaw : ∀ (ns : List Int), ns.length ≤ 63 → ∀ (R : DK) (xe : Exn → Oh → Prop), (∀ O', R (.d (.bool true)) O') → w_law [.d (.dict [(.none, .list (ns.map PyData.int))])] [] R xe) :
    ∃ fd : FuncData, (∀ (s : Shared) (v : Value), BindsTo s fd ⟨[v], []⟩ [("_law_script", v)]) ∧ ∀ base : Heap, K.In base → base.Ns mainGlobals mg → FnOk l.prog w K mg base (LM.CX true l.prog w) 3 fa fd ["_law_script"] (spLaw K) := by
  have e := hfa.symm.trans (PySem.W.mg_of X G a_law)
  cases e
  have nb : NB mg := ⟨PySem.W.mg_none_of X G b_len, PySem.W.mg_none_of X G b_abs, PySem.W.mg_none_of X G b_max, PySem.W.mg_none_of X G b_min, PySem.W.mg_none_of X G b_tuple, PySem.W.mg_none_of X G b_list, PySem.W.mg_none_of X G b_all, PySem.W.mg_none_of X G b_any, PySem.W.mg_none_of X G b_sorted, PySem.W.mg_none_of X G b_set, PySem.W.mg_none_of X G b_isinstance, PySem.W.mg_none_of X G b_range, PySem.W.mg_none_of X G b_enumerate, PySem.W.mg_none_of X G b_zip, PySem.W.mg_none_of X G b_int, PySem.W.mg_none_of X G b_str, PySem.W.mg_none_of X G b_bool, PySem.W.mg_none_of X G b_dict, PySem.W.mg_none_of X G b_repr, PySem.W.mg_none_of X G b_sum, PySem.W.mg_none_of X G b_type, PySem.W.mg_none_of X G b_reversed⟩
  have B : BaseC K mg "LineError" := ⟨_, _, PySem.W.mg_of X G n_LineError, ⟨rd_LE, sp_LE⟩, fc_LE⟩
  have X_NoName : XC0 K mg "NoName" := ⟨_, PySem.W.mg_of X G n_NoName, x_NoName, kc_NoName, s_NoName, t_NoName⟩
  have X_NoKind : XC0 K mg "NoKind" := ⟨_, PySem.W.mg_of X G n_NoKind, x_NoKind, kc_NoKind, s_NoKind, t_NoKind⟩
  have X_NoParents : XC0 K mg "NoParents" := ⟨_, PySem.W.mg_of X G n_NoParents, x_NoParents, kc_NoParents, s_NoParents, t_NoParents⟩
  have X_Taken : XC0 K mg "Taken" := ⟨_, PySem.W.mg_of X G n_Taken, x_Taken, kc_Taken, s_Taken, t_Taken⟩
  have X_InUse : XC0 K mg "InUse" := ⟨_, PySem.W.mg_of X G n_InUse, x_InUse, kc_InUse, s_InUse, t_InUse⟩
  have X_NoEntry : XC0 K mg "NoEntry" := ⟨_, PySem.W.mg_of X G n_NoEntry, x_NoEntry, kc_NoEntry, s_NoEntry, t_NoEntry⟩
  have X_NoThing : XC0 K mg "NoThing" := ⟨_, PySem.W.mg_of X G n_NoThing, x_NoThing, kc_NoThing, s_NoThing, t_NoThing⟩
  have X_NoNumber : XC0 K mg "NoNumber" := ⟨_, PySem.W.mg_of X G n_NoNumber, x_NoNumber, kc_NoNumber, s_NoNumber, t_NoNumber⟩
  have X_NotAbove : XC0 K mg "NotAbove" := ⟨_, PySem.W.mg_of X G n_NotAbove, x_NotAbove, kc_NotAbove, s_NotAbove, t_NotAbove⟩
  have X_Shut : XC0 K mg "Shut" := ⟨_, PySem.W.mg_of X G n_Shut, x_Shut, kc_Shut, s_Shut, t_Shut⟩
  have X_NoText : XC0 K mg "NoText" := ⟨_, PySem.W.mg_of X G n_NoText, x_NoText, kc_NoText, s_NoText, t_NoText⟩
  have X_NoRow : XC0 K mg "NoRow" := ⟨_, PySem.W.mg_of X G n_NoRow, x_NoRow, kc_NoRow, s_NoRow, t_NoRow⟩
  have V : XIsV K mg ["NoName", "NoKind", "NoParents", "Taken", "InUse", "NoEntry", "NoThing", "NoNumber", "NotAbove", "Shut", "NoText", "NoRow", "Ring", "Round", "Missing", "Endless"] "ValueError" := ⟨(xisv_cons (PySem.W.mg_of X G n_NoName) (by decide +kernel) ⟨eg_NoName, ek_NoName, s_NoName, ed_NoName, ea_NoName, eh_n, eh_t, em_NoName⟩ ev_NoName (xisv_cons (PySem.W.mg_of X G n_NoKind) (by decide +kernel) ⟨eg_NoKind, ek_NoKind, s_NoKind, ed_NoKind, ea_NoKind, eh_n, eh_t, em_NoKind⟩ ev_NoKind (xisv_cons (PySem.W.mg_of X G n_NoParents) (by decide +kernel) ⟨eg_NoParents, ek_NoParents, s_NoParents, ed_NoParents, ea_NoParents, eh_n, eh_t, em_NoParents⟩ ev_NoParents (xisv_cons (PySem.W.mg_of X G n_Taken) (by decide +kernel) ⟨eg_Taken, ek_Taken, s_Taken, ed_Taken, ea_Taken, eh_n, eh_t, em_Taken⟩ ev_Taken (xisv_cons (PySem.W.mg_of X G n_InUse) (by decide +kernel) ⟨eg_InUse, ek_InUse, s_InUse, ed_InUse, ea_InUse, eh_n, eh_t, em_InUse⟩ ev_InUse (xisv_cons (PySem.W.mg_of X G n_NoEntry) (by decide +kernel) ⟨eg_NoEntry, ek_NoEntry, s_NoEntry, ed_NoEntry, ea_NoEntry, eh_n, eh_t, em_NoEntry⟩ ev_NoEntry (xisv_cons (PySem.W.mg_of X G n_NoThing) (by decide +kernel) ⟨eg_NoThing, ek_NoThing, s_NoThing, ed_NoThing, ea_NoThing, eh_n, eh_t, em_NoThing⟩ ev_NoThing (xisv_cons (PySem.W.mg_of X G n_NoNumber) (by decide +kernel) ⟨eg_NoNumber, ek_NoNumber, s_NoNumber, ed_NoNumber, ea_NoNumber, eh_n, eh_t, em_NoNumber⟩ ev_NoNumber (xisv_cons (PySem.W.mg_of X G n_NotAbove) (by decide +kernel) ⟨eg_NotAbove, ek_NotAbove, s_NotAbove, ed_NotAbove, ea_NotAbove, eh_n, eh_t, em_NotAbove⟩ ev_NotAbove (xisv_cons (PySem.W.mg_of X G n_Shut) (by decide +kernel) ⟨eg_Shut, ek_Shut, s_Shut, ed_Shut, ea_Shut, eh_n, eh_t, em_Shut⟩ ev_Shut (xisv_cons (PySem.W.mg_of X G n_NoText) (by decide +kernel) ⟨eg_NoText, ek_NoText, s_NoText, ed_NoText, ea_NoText, eh_n, eh_t, em_NoText⟩ ev_NoText (xisv_cons (PySem.W.mg_of X G n_NoRow) (by decide +kernel) ⟨eg_NoRow, ek_NoRow, s_NoRow, ed_NoRow, ea_NoRow, eh_n, eh_t, em_NoRow⟩ ev_NoRow (xisv_cons (PySem.W.mg_of X G n_Ring) (by decide +kernel) ⟨eg_Ring, ek_Ring, s_Ring, ed_Ring, ea_Ring, eh_n, eh_t, em_Ring⟩ ev_Ring (xisv_cons (PySem.W.mg_of X G n_Round) (by decide +kernel) ⟨eg_Round, ek_Round, s_Round, ed_Round, ea_Round, eh_n, eh_t, em_Round⟩ ev_Round (xisv_cons (PySem.W.mg_of X G n_Missing) (by decide +kernel) ⟨eg_Missing, ek_Missing, s_Missing, ed_Missing, ea_Missing, eh_n, eh_t, em_Missing⟩ ev_Missing (xisv_cons (PySem.W.mg_of X G n_Endless) (by decide +kernel) ⟨eg_Endless, ek_Endless, s_Endless, ed_Endless, ea_Endless, eh_n, eh_t, em_Endless⟩ ev_Endless xisv_nil))))))))))))))))⟩
  have nv := PySem.W.mg_none_of X G b_ValueError
  have I_NoName : XIs K mg ["NoName", "NoKind", "NoParents", "Taken", "InUse", "NoEntry", "NoThing", "NoNumber", "NotAbove", "Shut", "NoText", "NoRow", "Ring", "Round", "Missing", "Endless"] "NoName" := ⟨_, PySem.W.mg_of X G n_NoName, (xis_cons (PySem.W.mg_of X G n_NoName) (by decide +kernel) sf_NoName t_NoName si_NoName_NoName (xis_cons (PySem.W.mg_of X G n_NoKind) (by decide +kernel) sf_NoName t_NoName si_NoKind_NoName (xis_cons (PySem.W.mg_of X G n_NoParents) (by decide +kernel) sf_NoName t_NoName si_NoParents_NoName (xis_cons (PySem.W.mg_of X G n_Taken) (by decide +kernel) sf_NoName t_NoName si_Taken_NoName (xis_cons (PySem.W.mg_of X G n_InUse) (by decide +kernel) sf_NoName t_NoName si_InUse_NoName (xis_cons (PySem.W.mg_of X G n_NoEntry) (by decide +kernel) sf_NoName t_NoName si_NoEntry_NoName (xis_cons (PySem.W.mg_of X G n_NoThing) (by decide +kernel) sf_NoName t_NoName si_NoThing_NoName (xis_cons (PySem.W.mg_of X G n_NoNumber) (by decide +kernel) sf_NoName t_NoName si_NoNumber_NoName (xis_cons (PySem.W.mg_of X G n_NotAbove) (by decide +kernel) sf_NoName t_NoName si_NotAbove_NoName (xis_cons (PySem.W.mg_of X G n_Shut) (by decide +kernel) sf_NoName t_NoName si_Shut_NoName (xis_cons (PySem.W.mg_of X G n_NoText) (by decide +kernel) sf_NoName t_NoName si_NoText_NoName (xis_cons (PySem.W.mg_of X G n_NoRow) (by decide +kernel) sf_NoName t_NoName si_NoRow_NoName (xis_cons (PySem.W.mg_of X G n_Ring) (by decide +kernel) sf_NoName t_NoName si_Ring_NoName (xis_cons (PySem.W.mg_of X G n_Round) (by decide +kernel) sf_NoName t_NoName si_Round_NoName (xis_cons (PySem.W.mg_of X G n_Missing) (by decide +kernel) sf_NoName t_NoName si_Missing_NoName (xis_cons (PySem.W.mg_of X G n_Endless) (by decide +kernel) sf_NoName t_NoName si_Endless_NoName xis_nil))))))))))))))))⟩
  have I_NoKind : XIs K mg ["NoName", "NoKind", "NoParents", "Taken", "InUse", "NoEntry", "NoThing", "NoNumber", "NotAbove", "Shut", "NoText", "NoRow", "Ring", "Round", "Missing", "Endless"] "NoKind" := ⟨_, PySem.W.mg_of X G n_NoKind, (xis_cons (PySem.W.mg_of X G n_NoName) (by decide +kernel) sf_NoKind t_NoKind si_NoName_NoKind (xis_cons (PySem.W.mg_of X G n_NoKind) (by decide +kernel) sf_NoKind t_NoKind si_NoKind_NoKind (xis_cons (PySem.W.mg_of X G n_NoParents) (by decide +kernel) sf_NoKind t_NoKind si_NoParents_NoKind (xis_cons (PySem.W.mg_of X G n_Taken) (by decide +kernel) sf_NoKind t_NoKind si_Taken_NoKind (xis_cons (PySem.W.mg_of X G n_InUse) (by decide +kernel) sf_NoKind t_NoKind si_InUse_NoKind (xis_cons (PySem.W.mg_of X G n_NoEntry) (by decide +kernel) sf_NoKind t_NoKind si_NoEntry_NoKind (xis_cons (PySem.W.mg_of X G n_NoThing) (by decide +kernel) sf_NoKind t_NoKind si_NoThing_NoKind (xis_cons (PySem.W.mg_of X G n_NoNumber) (by decide +kernel) sf_NoKind t_NoKind si_NoNumber_NoKind (xis_cons (PySem.W.mg_of X G n_NotAbove) (by decide +kernel) sf_NoKind t_NoKind si_NotAbove_NoKind (xis_cons (PySem.W.mg_of X G n_Shut) (by decide +kernel) sf_NoKind t_NoKind si_Shut_NoKind (xis_cons (PySem.W.mg_of X G n_NoText) (by decide +kernel) sf_NoKind t_NoKind si_NoText_NoKind (xis_cons (PySem.W.mg_of X G n_NoRow) (by decide +kernel) sf_NoKind t_NoKind si_NoRow_NoKind (xis_cons (PySem.W.mg_of X G n_Ring) (by decide +kernel) sf_NoKind t_NoKind si_Ring_NoKind (xis_cons (PySem.W.mg_of X G n_Round) (by decide +kernel) sf_NoKind t_NoKind si_Round_NoKind (xis_cons (PySem.W.mg_of X G n_Missing) (by decide +kernel) sf_NoKind t_NoKind si_Missing_NoKind (xis_cons (PySem.W.mg_of X G n_Endless) (by decide +kernel) sf_NoKind t_NoKind si_Endless_NoKind xis_nil))))))))))))))))⟩
  have I_NoParents : XIs K mg ["NoName", "NoKind", "NoParents", "Taken", "InUse", "NoEntry", "NoThing", "NoNumber", "NotAbove", "Shut", "NoText", "NoRow", "Ring", "Round", "Missing", "Endless"] "NoParents" := ⟨_, PySem.W.mg_of X G n_NoParents, (xis_cons (PySem.W.mg_of X G n_NoName) (by decide +kernel) sf_NoParents t_NoParents si_NoName_NoParents (xis_cons (PySem.W.mg_of X G n_NoKind) (by decide +kernel) sf_NoParents t_NoParents si_NoKind_NoParents (xis_cons (PySem.W.mg_of X G n_NoParents) (by decide +kernel) sf_NoParents t_NoParents si_NoParents_NoParents (xis_cons (PySem.W.mg_of X G n_Taken) (by decide +kernel) sf_NoParents t_NoParents si_Taken_NoParents (xis_cons (PySem.W.mg_of X G n_InUse) (by decide +kernel) sf_NoParents t_NoParents si_InUse_NoParents (xis_cons (PySem.W.mg_of X G n_NoEntry) (by decide +kernel) sf_NoParents t_NoParents si_NoEntry_NoParents (xis_cons (PySem.W.mg_of X G n_NoThing) (by decide +kernel) sf_NoParents t_NoParents si_NoThing_NoParents (xis_cons (PySem.W.mg_of X G n_NoNumber) (by decide +kernel) sf_NoParents t_NoParents si_NoNumber_NoParents (xis_cons (PySem.W.mg_of X G n_NotAbove) (by decide +kernel) sf_NoParents t_NoParents si_NotAbove_NoParents (xis_cons (PySem.W.mg_of X G n_Shut) (by decide +kernel) sf_NoParents t_NoParents si_Shut_NoParents (xis_cons (PySem.W.mg_of X G n_NoText) (by decide +kernel) sf_NoParents t_NoParents si_NoText_NoParents (xis_cons (PySem.W.mg_of X G n_NoRow) (by decide +kernel) sf_NoParents t_NoParents si_NoRow_NoParents (xis_cons (PySem.W.mg_of X G n_Ring) (by decide +kernel) sf_NoParents t_NoParents si_Ring_NoParents (xis_cons (PySem.W.mg_of X G n_Round) (by decide +kernel) sf_NoParents t_NoParents si_Round_NoParents (xis_cons (PySem.W.mg_of X G n_Missing) (by decide +kernel) sf_NoParents t_NoParents si_Missing_NoParents (xis_cons (PySem.W.mg_of X G n_Endless) (by decide +kernel) sf_NoParents t_NoParents si_Endless_NoParents xis_nil))))))))))))))))⟩
  have I_Taken : XIs K mg ["NoName", "NoKind", "NoParents", "Taken", "InUse", "NoEntry", "NoThing", "NoNumber", "NotAbove", "Shut", "NoText", "NoRow", "Ring", "Round", "Missing", "Endless"] "Taken" := ⟨_, PySem.W.mg_of X G n_Taken, (xis_cons (PySem.W.mg_of X G n_NoName) (by decide +kernel) sf_Taken t_Taken si_NoName_Taken (xis_cons (PySem.W.mg_of X G n_NoKind) (by decide +kernel) sf_Taken t_Taken si_NoKind_Taken (xis_cons (PySem.W.mg_of X G n_NoParents) (by decide +kernel) sf_Taken t_Taken si_NoParents_Taken (xis_cons (PySem.W.mg_of X G n_Taken) (by decide +kernel) sf_Taken t_Taken si_Taken_Taken (xis_cons (PySem.W.mg_of X G n_InUse) (by decide +kernel) sf_Taken t_Taken si_InUse_Taken (xis_cons (PySem.W.mg_of X G n_NoEntry) (by decide +kernel) sf_Taken t_Taken si_NoEntry_Taken (xis_cons (PySem.W.mg_of X G n_NoThing) (by decide +kernel) sf_Taken t_Taken si_NoThing_Taken (xis_cons (PySem.W.mg_of X G n_NoNumber) (by decide +kernel) sf_Taken t_Taken si_NoNumber_Taken (xis_cons (PySem.W.mg_of X G n_NotAbove) (by decide +kernel) sf_Taken t_Taken si_NotAbove_Taken (xis_cons (PySem.W.mg_of X G n_Shut) (by decide +kernel) sf_Taken t_Taken si_Shut_Taken (xis_cons (PySem.W.mg_of X G n_NoText) (by decide +kernel) sf_Taken t_Taken si_NoText_Taken (xis_cons (PySem.W.mg_of X G n_NoRow) (by decide +kernel) sf_Taken t_Taken si_NoRow_Taken (xis_cons (PySem.W.mg_of X G n_Ring) (by decide +kernel) sf_Taken t_Taken si_Ring_Taken (xis_cons (PySem.W.mg_of X G n_Round) (by decide +kernel) sf_Taken t_Taken si_Round_Taken (xis_cons (PySem.W.mg_of X G n_Missing) (by decide +kernel) sf_Taken t_Taken si_Missing_Taken (xis_cons (PySem.W.mg_of X G n_Endless) (by decide +kernel) sf_Taken t_Taken si_Endless_Taken xis_nil))))))))))))))))⟩
  have I_InUse : XIs K mg ["NoName", "NoKind", "NoParents", "Taken", "InUse", "NoEntry", "NoThing", "NoNumber", "NotAbove", "Shut", "NoText", "NoRow", "Ring", "Round", "Missing", "Endless"] "InUse" := ⟨_, PySem.W.mg_of X G n_InUse, (xis_cons (PySem.W.mg_of X G n_NoName) (by decide +kernel) sf_InUse t_InUse si_NoName_InUse (xis_cons (PySem.W.mg_of X G n_NoKind) (by decide +kernel) sf_InUse t_InUse si_NoKind_InUse (xis_cons (PySem.W.mg_of X G n_NoParents) (by decide +kernel) sf_InUse t_InUse si_NoParents_InUse (xis_cons (PySem.W.mg_of X G n_Taken) (by decide +kernel) sf_InUse t_InUse si_Taken_InUse (xis_cons (PySem.W.mg_of X G n_InUse) (by decide +kernel) sf_InUse t_InUse si_InUse_InUse (xis_cons (PySem.W.mg_of X G n_NoEntry) (by decide +kernel) sf_InUse t_InUse si_NoEntry_InUse (xis_cons (PySem.W.mg_of X G n_NoThing) (by decide +kernel) sf_InUse t_InUse si_NoThing_InUse (xis_cons (PySem.W.mg_of X G n_NoNumber) (by decide +kernel) sf_InUse t_InUse si_NoNumber_InUse (xis_cons (PySem.W.mg_of X G n_NotAbove) (by decide +kernel) sf_InUse t_InUse si_NotAbove_InUse (xis_cons (PySem.W.mg_of X G n_Shut) (by decide +kernel) sf_InUse t_InUse si_Shut_InUse (xis_cons (PySem.W.mg_of X G n_NoText) (by decide +kernel) sf_InUse t_InUse si_NoText_InUse (xis_cons (PySem.W.mg_of X G n_NoRow) (by decide +kernel) sf_InUse t_InUse si_NoRow_InUse (xis_cons (PySem.W.mg_of X G n_Ring) (by decide +kernel) sf_InUse t_InUse si_Ring_InUse (xis_cons (PySem.W.mg_of X G n_Round) (by decide +kernel) sf_InUse t_InUse si_Round_InUse (xis_cons (PySem.W.mg_of X G n_Missing) (by decide +kernel) sf_InUse t_InUse si_Missing_InUse (xis_cons (PySem.W.mg_of X G n_Endless) (by decide +kernel) sf_InUse t_InUse si_Endless_InUse xis_nil))))))))))))))))⟩
  have I_NoEntry : XIs K mg ["NoName", "NoKind", "NoParents", "Taken", "InUse", "NoEntry", "NoThing", "NoNumber", "NotAbove", "Shut", "NoText", "NoRow", "Ring", "Round", "Missing", "Endless"] "NoEntry" := ⟨_, PySem.W.mg_of X G n_NoEntry, (xis_cons (PySem.W.mg_of X G n_NoName) (by decide +kernel) sf_NoEntry t_NoEntry si_NoName_NoEntry (xis_cons (PySem.W.mg_of X G n_NoKind) (by decide +kernel) sf_NoEntry t_NoEntry si_NoKind_NoEntry (xis_cons (PySem.W.mg_of X G n_NoParents) (by decide +kernel) sf_NoEntry t_NoEntry si_NoParents_NoEntry (xis_cons (PySem.W.mg_of X G n_Taken) (by decide +kernel) sf_NoEntry t_NoEntry si_Taken_NoEntry (xis_cons (PySem.W.mg_of X G n_InUse) (by decide +kernel) sf_NoEntry t_NoEntry si_InUse_NoEntry (xis_cons (PySem.W.mg_of X G n_NoEntry) (by decide +kernel) sf_NoEntry t_NoEntry si_NoEntry_NoEntry (xis_cons (PySem.W.mg_of X G n_NoThing) (by decide +kernel) sf_NoEntry t_NoEntry si_NoThing_NoEntry (xis_cons (PySem.W.mg_of X G n_NoNumber) (by decide +kernel) sf_NoEntry t_NoEntry si_NoNumber_NoEntry (xis_cons (PySem.W.mg_of X G n_NotAbove) (by decide +kernel) sf_NoEntry t_NoEntry si_NotAbove_NoEntry (xis_cons (PySem.W.mg_of X G n_Shut) (by decide +kernel) sf_NoEntry t_NoEntry si_Shut_NoEntry (xis_cons (PySem.W.mg_of X G n_NoText) (by decide +kernel) sf_NoEntry t_NoEntry si_NoText_NoEntry (xis_cons (PySem.W.mg_of X G n_NoRow) (by decide +kernel) sf_NoEntry t_NoEntry si_NoRow_NoEntry (xis_cons (PySem.W.mg_of X G n_Ring) (by decide +kernel) sf_NoEntry t_NoEntry si_Ring_NoEntry (xis_cons (PySem.W.mg_of X G n_Round) (by decide +kernel) sf_NoEntry t_NoEntry si_Round_NoEntry (xis_cons (PySem.W.mg_of X G n_Missing) (by decide +kernel) sf_NoEntry t_NoEntry si_Missing_NoEntry (xis_cons (PySem.W.mg_of X G n_Endless) (by decide +kernel) sf_NoEntry t_NoEntry si_Endless_NoEntry xis_nil))))))))))))))))⟩
  have I_NoThing : XIs K mg ["NoName", "NoKind", "NoParents", "Taken", "InUse", "NoEntry", "NoThing", "NoNumber", "NotAbove", "Shut", "NoText", "NoRow", "Ring", "Round", "Missing", "Endless"] "NoThing" := ⟨_, PySem.W.mg_of X G n_NoThing, (xis_cons (PySem.W.mg_of X G n_NoName) (by decide +kernel) sf_NoThing t_NoThing si_NoName_NoThing (xis_cons (PySem.W.mg_of X G n_NoKind) (by decide +kernel) sf_NoThing t_NoThing si_NoKind_NoThing (xis_cons (PySem.W.mg_of X G n_NoParents) (by decide +kernel) sf_NoThing t_NoThing si_NoParents_NoThing (xis_cons (PySem.W.mg_of X G n_Taken) (by decide +kernel) sf_NoThing t_NoThing si_Taken_NoThing (xis_cons (PySem.W.mg_of X G n_InUse) (by decide +kernel) sf_NoThing t_NoThing si_InUse_NoThing (xis_cons (PySem.W.mg_of X G n_NoEntry) (by decide +kernel) sf_NoThing t_NoThing si_NoEntry_NoThing (xis_cons (PySem.W.mg_of X G n_NoThing) (by decide +kernel) sf_NoThing t_NoThing si_NoThing_NoThing (xis_cons (PySem.W.mg_of X G n_NoNumber) (by decide +kernel) sf_NoThing t_NoThing si_NoNumber_NoThing (xis_cons (PySem.W.mg_of X G n_NotAbove) (by decide +kernel) sf_NoThing t_NoThing si_NotAbove_NoThing (xis_cons (PySem.W.mg_of X G n_Shut) (by decide +kernel) sf_NoThing t_NoThing si_Shut_NoThing (xis_cons (PySem.W.mg_of X G n_NoText) (by decide +kernel) sf_NoThing t_NoThing si_NoText_NoThing (xis_cons (PySem.W.mg_of X G n_NoRow) (by decide +kernel) sf_NoThing t_NoThing si_NoRow_NoThing (xis_cons (PySem.W.mg_of X G n_Ring) (by decide +kernel) sf_NoThing t_NoThing si_Ring_NoThing (xis_cons (PySem.W.mg_of X G n_Round) (by decide +kernel) sf_NoThing t_NoThing si_Round_NoThing (xis_cons (PySem.W.mg_of X G n_Missing) (by decide +kernel) sf_NoThing t_NoThing si_Missing_NoThing (xis_cons (PySem.W.mg_of X G n_Endless) (by decide +kernel) sf_NoThing t_NoThing si_Endless_NoThing xis_nil))))))))))))))))⟩
  have I_NoNumber : XIs K mg ["NoName", "NoKind", "NoParents", "Taken", "InUse", "NoEntry", "NoThing", "NoNumber", "NotAbove", "Shut", "NoText", "NoRow", "Ring", "Round", "Missing", "Endless"] "NoNumber" := ⟨_, PySem.W.mg_of X G n_NoNumber, (xis_cons (PySem.W.mg_of X G n_NoName) (by decide +kernel) sf_NoNumber t_NoNumber si_NoName_NoNumber (xis_cons (PySem.W.mg_of X G n_NoKind) (by decide +kernel) sf_NoNumber t_NoNumber si_NoKind_NoNumber (xis_cons (PySem.W.mg_of X G n_NoParents) (by decide +kernel) sf_NoNumber t_NoNumber si_NoParents_NoNumber (xis_cons (PySem.W.mg_of X G n_Taken) (by decide +kernel) sf_NoNumber t_NoNumber si_Taken_NoNumber (xis_cons (PySem.W.mg_of X G n_InUse) (by decide +kernel) sf_NoNumber t_NoNumber si_InUse_NoNumber (xis_cons (PySem.W.mg_of X G n_NoEntry) (by decide +kernel) sf_NoNumber t_NoNumber si_NoEntry_NoNumber (xis_cons (PySem.W.mg_of X G n_NoThing) (by decide +kernel) sf_NoNumber t_NoNumber si_NoThing_NoNumber (xis_cons (PySem.W.mg_of X G n_NoNumber) (by decide +kernel) sf_NoNumber t_NoNumber si_NoNumber_NoNumber (xis_cons (PySem.W.mg_of X G n_NotAbove) (by decide +kernel) sf_NoNumber t_NoNumber si_NotAbove_NoNumber (xis_cons (PySem.W.mg_of X G n_Shut) (by decide +kernel) sf_NoNumber t_NoNumber si_Shut_NoNumber (xis_cons (PySem.W.mg_of X G n_NoText) (by decide +kernel) sf_NoNumber t_NoNumber si_NoText_NoNumber (xis_cons (PySem.W.mg_of X G n_NoRow) (by decide +kernel) sf_NoNumber t_NoNumber si_NoRow_NoNumber (xis_cons (PySem.W.mg_of X G n_Ring) (by decide +kernel) sf_NoNumber t_NoNumber si_Ring_NoNumber (xis_cons (PySem.W.mg_of X G n_Round) (by decide +kernel) sf_NoNumber t_NoNumber si_Round_NoNumber (xis_cons (PySem.W.mg_of X G n_Missing) (by decide +kernel) sf_NoNumber t_NoNumber si_Missing_NoNumber (xis_cons (PySem.W.mg_of X G n_Endless) (by decide +kernel) sf_NoNumber t_NoNumber si_Endless_NoNumber xis_nil))))))))))))))))⟩
  have I_NotAbove : XIs K mg ["NoName", "NoKind", "NoParents", "Taken", "InUse", "NoEntry", "NoThing", "NoNumber", "NotAbove", "Shut", "NoText", "NoRow", "Ring", "Round", "Missing", "Endless"] "NotAbove" := ⟨_, PySem.W.mg_of X G n_NotAbove, (xis_cons (PySem.W.mg_of X G n_NoName) (by decide +kernel) sf_NotAbove t_NotAbove si_NoName_NotAbove (xis_cons (PySem.W.mg_of X G n_NoKind) (by decide +kernel) sf_NotAbove t_NotAbove si_NoKind_NotAbove (xis_cons (PySem.W.mg_of X G n_NoParents) (by decide +kernel) sf_NotAbove t_NotAbove si_NoParents_NotAbove (xis_cons (PySem.W.mg_of X G n_Taken) (by decide +kernel) sf_NotAbove t_NotAbove si_Taken_NotAbove (xis_cons (PySem.W.mg_of X G n_InUse) (by decide +kernel) sf_NotAbove t_NotAbove si_InUse_NotAbove (xis_cons (PySem.W.mg_of X G n_NoEntry) (by decide +kernel) sf_NotAbove t_NotAbove si_NoEntry_NotAbove (xis_cons (PySem.W.mg_of X G n_NoThing) (by decide +kernel) sf_NotAbove t_NotAbove si_NoThing_NotAbove (xis_cons (PySem.W.mg_of X G n_NoNumber) (by decide +kernel) sf_NotAbove t_NotAbove si_NoNumber_NotAbove (xis_cons (PySem.W.mg_of X G n_NotAbove) (by decide +kernel) sf_NotAbove t_NotAbove si_NotAbove_NotAbove (xis_cons (PySem.W.mg_of X G n_Shut) (by decide +kernel) sf_NotAbove t_NotAbove si_Shut_NotAbove (xis_cons (PySem.W.mg_of X G n_NoText) (by decide +kernel) sf_NotAbove t_NotAbove si_NoText_NotAbove (xis_cons (PySem.W.mg_of X G n_NoRow) (by decide +kernel) sf_NotAbove t_NotAbove si_NoRow_NotAbove (xis_cons (PySem.W.mg_of X G n_Ring) (by decide +kernel) sf_NotAbove t_NotAbove si_Ring_NotAbove (xis_cons (PySem.W.mg_of X G n_Round) (by decide +kernel) sf_NotAbove t_NotAbove si_Round_NotAbove (xis_cons (PySem.W.mg_of X G n_Missing) (by decide +kernel) sf_NotAbove t_NotAbove si_Missing_NotAbove (xis_cons (PySem.W.mg_of X G n_Endless) (by decide +kernel) sf_NotAbove t_NotAbove si_Endless_NotAbove xis_nil))))))))))))))))⟩
  have I_Shut : XIs K mg ["NoName", "NoKind", "NoParents", "Taken", "InUse", "NoEntry", "NoThing", "NoNumber", "NotAbove", "Shut", "NoText", "NoRow", "Ring", "Round", "Missing", "Endless"] "Shut" := ⟨_, PySem.W.mg_of X G n_Shut, (xis_cons (PySem.W.mg_of X G n_NoName) (by decide +kernel) sf_Shut t_Shut si_NoName_Shut (xis_cons (PySem.W.mg_of X G n_NoKind) (by decide +kernel) sf_Shut t_Shut si_NoKind_Shut (xis_cons (PySem.W.mg_of X G n_NoParents) (by decide +kernel) sf_Shut t_Shut si_NoParents_Shut (xis_cons (PySem.W.mg_of X G n_Taken) (by decide +kernel) sf_Shut t_Shut si_Taken_Shut (xis_cons (PySem.W.mg_of X G n_InUse) (by decide +kernel) sf_Shut t_Shut si_InUse_Shut (xis_cons (PySem.W.mg_of X G n_NoEntry) (by decide +kernel) sf_Shut t_Shut si_NoEntry_Shut (xis_cons (PySem.W.mg_of X G n_NoThing) (by decide +kernel) sf_Shut t_Shut si_NoThing_Shut (xis_cons (PySem.W.mg_of X G n_NoNumber) (by decide +kernel) sf_Shut t_Shut si_NoNumber_Shut (xis_cons (PySem.W.mg_of X G n_NotAbove) (by decide +kernel) sf_Shut t_Shut si_NotAbove_Shut (xis_cons (PySem.W.mg_of X G n_Shut) (by decide +kernel) sf_Shut t_Shut si_Shut_Shut (xis_cons (PySem.W.mg_of X G n_NoText) (by decide +kernel) sf_Shut t_Shut si_NoText_Shut (xis_cons (PySem.W.mg_of X G n_NoRow) (by decide +kernel) sf_Shut t_Shut si_NoRow_Shut (xis_cons (PySem.W.mg_of X G n_Ring) (by decide +kernel) sf_Shut t_Shut si_Ring_Shut (xis_cons (PySem.W.mg_of X G n_Round) (by decide +kernel) sf_Shut t_Shut si_Round_Shut (xis_cons (PySem.W.mg_of X G n_Missing) (by decide +kernel) sf_Shut t_Shut si_Missing_Shut (xis_cons (PySem.W.mg_of X G n_Endless) (by decide +kernel) sf_Shut t_Shut si_Endless_Shut xis_nil))))))))))))))))⟩
  have I_NoText : XIs K mg ["NoName", "NoKind", "NoParents", "Taken", "InUse", "NoEntry", "NoThing", "NoNumber", "NotAbove", "Shut", "NoText", "NoRow", "Ring", "Round", "Missing", "Endless"] "NoText" := ⟨_, PySem.W.mg_of X G n_NoText, (xis_cons (PySem.W.mg_of X G n_NoName) (by decide +kernel) sf_NoText t_NoText si_NoName_NoText (xis_cons (PySem.W.mg_of X G n_NoKind) (by decide +kernel) sf_NoText t_NoText si_NoKind_NoText (xis_cons (PySem.W.mg_of X G n_NoParents) (by decide +kernel) sf_NoText t_NoText si_NoParents_NoText (xis_cons (PySem.W.mg_of X G n_Taken) (by decide +kernel) sf_NoText t_NoText si_Taken_NoText (xis_cons (PySem.W.mg_of X G n_InUse) (by decide +kernel) sf_NoText t_NoText si_InUse_NoText (xis_cons (PySem.W.mg_of X G n_NoEntry) (by decide +kernel) sf_NoText t_NoText si_NoEntry_NoText (xis_cons (PySem.W.mg_of X G n_NoThing) (by decide +kernel) sf_NoText t_NoText si_NoThing_NoText (xis_cons (PySem.W.mg_of X G n_NoNumber) (by decide +kernel) sf_NoText t_NoText si_NoNumber_NoText (xis_cons (PySem.W.mg_of X G n_NotAbove) (by decide +kernel) sf_NoText t_NoText si_NotAbove_NoText (xis_cons (PySem.W.mg_of X G n_Shut) (by decide +kernel) sf_NoText t_NoText si_Shut_NoText (xis_cons (PySem.W.mg_of X G n_NoText) (by decide +kernel) sf_NoText t_NoText si_NoText_NoText (xis_cons (PySem.W.mg_of X G n_NoRow) (by decide +kernel) sf_NoText t_NoText si_NoRow_NoText (xis_cons (PySem.W.mg_of X G n_Ring) (by decide +kernel) sf_NoText t_NoText si_Ring_NoText (xis_cons (PySem.W.mg_of X G n_Round) (by decide +kernel) sf_NoText t_NoText si_Round_NoText (xis_cons (PySem.W.mg_of X G n_Missing) (by decide +kernel) sf_NoText t_NoText si_Missing_NoText (xis_cons (PySem.W.mg_of X G n_Endless) (by decide +kernel) sf_NoText t_NoText si_Endless_NoText xis_nil))))))))))))))))⟩
  have I_NoRow : XIs K mg ["NoName", "NoKind", "NoParents", "Taken", "InUse", "NoEntry", "NoThing", "NoNumber", "NotAbove", "Shut", "NoText", "NoRow", "Ring", "Round", "Missing", "Endless"] "NoRow" := ⟨_, PySem.W.mg_of X G n_NoRow, (xis_cons (PySem.W.mg_of X G n_NoName) (by decide +kernel) sf_NoRow t_NoRow si_NoName_NoRow (xis_cons (PySem.W.mg_of X G n_NoKind) (by decide +kernel) sf_NoRow t_NoRow si_NoKind_NoRow (xis_cons (PySem.W.mg_of X G n_NoParents) (by decide +kernel) sf_NoRow t_NoRow si_NoParents_NoRow (xis_cons (PySem.W.mg_of X G n_Taken) (by decide +kernel) sf_NoRow t_NoRow si_Taken_NoRow (xis_cons (PySem.W.mg_of X G n_InUse) (by decide +kernel) sf_NoRow t_NoRow si_InUse_NoRow (xis_cons (PySem.W.mg_of X G n_NoEntry) (by decide +kernel) sf_NoRow t_NoRow si_NoEntry_NoRow (xis_cons (PySem.W.mg_of X G n_NoThing) (by decide +kernel) sf_NoRow t_NoRow si_NoThing_NoRow (xis_cons (PySem.W.mg_of X G n_NoNumber) (by decide +kernel) sf_NoRow t_NoRow si_NoNumber_NoRow (xis_cons (PySem.W.mg_of X G n_NotAbove) (by decide +kernel) sf_NoRow t_NoRow si_NotAbove_NoRow (xis_cons (PySem.W.mg_of X G n_Shut) (by decide +kernel) sf_NoRow t_NoRow si_Shut_NoRow (xis_cons (PySem.W.mg_of X G n_NoText) (by decide +kernel) sf_NoRow t_NoRow si_NoText_NoRow (xis_cons (PySem.W.mg_of X G n_NoRow) (by decide +kernel) sf_NoRow t_NoRow si_NoRow_NoRow (xis_cons (PySem.W.mg_of X G n_Ring) (by decide +kernel) sf_NoRow t_NoRow si_Ring_NoRow (xis_cons (PySem.W.mg_of X G n_Round) (by decide +kernel) sf_NoRow t_NoRow si_Round_NoRow (xis_cons (PySem.W.mg_of X G n_Missing) (by decide +kernel) sf_NoRow t_NoRow si_Missing_NoRow (xis_cons (PySem.W.mg_of X G n_Endless) (by decide +kernel) sf_NoRow t_NoRow si_Endless_NoRow xis_nil))))))))))))))))⟩
  have I_Ring : XIs K mg ["NoName", "NoKind", "NoParents", "Taken", "InUse", "NoEntry", "NoThing", "NoNumber", "NotAbove", "Shut", "NoText", "NoRow", "Ring", "Round", "Missing", "Endless"] "Ring" := ⟨_, PySem.W.mg_of X G n_Ring, (xis_cons (PySem.W.mg_of X G n_NoName) (by decide +kernel) sf_Ring t_Ring si_NoName_Ring (xis_cons (PySem.W.mg_of X G n_NoKind) (by decide +kernel) sf_Ring t_Ring si_NoKind_Ring (xis_cons (PySem.W.mg_of X G n_NoParents) (by decide +kernel) sf_Ring t_Ring si_NoParents_Ring (xis_cons (PySem.W.mg_of X G n_Taken) (by decide +kernel) sf_Ring t_Ring si_Taken_Ring (xis_cons (PySem.W.mg_of X G n_InUse) (by decide +kernel) sf_Ring t_Ring si_InUse_Ring (xis_cons (PySem.W.mg_of X G n_NoEntry) (by decide +kernel) sf_Ring t_Ring si_NoEntry_Ring (xis_cons (PySem.W.mg_of X G n_NoThing) (by decide +kernel) sf_Ring t_Ring si_NoThing_Ring (xis_cons (PySem.W.mg_of X G n_NoNumber) (by decide +kernel) sf_Ring t_Ring si_NoNumber_Ring (xis_cons (PySem.W.mg_of X G n_NotAbove) (by decide +kernel) sf_Ring t_Ring si_NotAbove_Ring (xis_cons (PySem.W.mg_of X G n_Shut) (by decide +kernel) sf_Ring t_Ring si_Shut_Ring (xis_cons (PySem.W.mg_of X G n_NoText) (by decide +kernel) sf_Ring t_Ring si_NoText_Ring (xis_cons (PySem.W.mg_of X G n_NoRow) (by decide +kernel) sf_Ring t_Ring si_NoRow_Ring (xis_cons (PySem.W.mg_of X G n_Ring) (by decide +kernel) sf_Ring t_Ring si_Ring_Ring (xis_cons (PySem.W.mg_of X G n_Round) (by decide +kernel) sf_Ring t_Ring si_Round_Ring (xis_cons (PySem.W.mg_of X G n_Missing) (by decide +kernel) sf_Ring t_Ring si_Missing_Ring (xis_cons (PySem.W.mg_of X G n_Endless) (by decide +kernel) sf_Ring t_Ring si_Endless_Ring xis_nil))))))))))))))))⟩
  have I_Round : XIs K mg ["NoName", "NoKind", "NoParents", "Taken", "InUse", "NoEntry", "NoThing", "NoNumber", "NotAbove", "Shut", "NoText", "NoRow", "Ring", "Round", "Missing", "Endless"] "Round" := ⟨_, PySem.W.mg_of X G n_Round, (xis_cons (PySem.W.mg_of X G n_NoName) (by decide +kernel) sf_Round t_Round si_NoName_Round (xis_cons (PySem.W.mg_of X G n_NoKind) (by decide +kernel) sf_Round t_Round si_NoKind_Round (xis_cons (PySem.W.mg_of X G n_NoParents) (by decide +kernel) sf_Round t_Round si_NoParents_Round (xis_cons (PySem.W.mg_of X G n_Taken) (by decide +kernel) sf_Round t_Round si_Taken_Round (xis_cons (PySem.W.mg_of X G n_InUse) (by decide +kernel) sf_Round t_Round si_InUse_Round (xis_cons (PySem.W.mg_of X G n_NoEntry) (by decide +kernel) sf_Round t_Round si_NoEntry_Round (xis_cons (PySem.W.mg_of X G n_NoThing) (by decide +kernel) sf_Round t_Round si_NoThing_Round (xis_cons (PySem.W.mg_of X G n_NoNumber) (by decide +kernel) sf_Round t_Round si_NoNumber_Round (xis_cons (PySem.W.mg_of X G n_NotAbove) (by decide +kernel) sf_Round t_Round si_NotAbove_Round (xis_cons (PySem.W.mg_of X G n_Shut) (by decide +kernel) sf_Round t_Round si_Shut_Round (xis_cons (PySem.W.mg_of X G n_NoText) (by decide +kernel) sf_Round t_Round si_NoText_Round (xis_cons (PySem.W.mg_of X G n_NoRow) (by decide +kernel) sf_Round t_Round si_NoRow_Round (xis_cons (PySem.W.mg_of X G n_Ring) (by decide +kernel) sf_Round t_Round si_Ring_Round (xis_cons (PySem.W.mg_of X G n_Round) (by decide +kernel) sf_Round t_Round si_Round_Round (xis_cons (PySem.W.mg_of X G n_Missing) (by decide +kernel) sf_Round t_Round si_Missing_Round (xis_cons (PySem.W.mg_of X G n_Endless) (by decide +kernel) sf_Round t_Round si_Endless_Round xis_nil))))))))))))))))⟩
  have I_Missing : XIs K mg ["NoName", "NoKind", "NoParents", "Taken", "InUse", "NoEntry", "NoThing", "NoNumber", "NotAbove", "Shut", "NoText", "NoRow", "Ring", "Round", "Missing", "Endless"] "Missing" := ⟨_, PySem.W.mg_of X G n_Missing, (xis_cons (PySem.W.mg_of X G n_NoName) (by decide +kernel) sf_Missing t_Missing si_NoName_Missing (xis_cons (PySem.W.mg_of X G n_NoKind) (by decide +kernel) sf_Missing t_Missing si_NoKind_Missing (xis_cons (PySem.W.mg_of X G n_NoParents) (by decide +kernel) sf_Missing t_Missing si_NoParents_Missing (xis_cons (PySem.W.mg_of X G n_Taken) (by decide +kernel) sf_Missing t_Missing si_Taken_Missing (xis_cons (PySem.W.mg_of X G n_InUse) (by decide +kernel) sf_Missing t_Missing si_InUse_Missing (xis_cons (PySem.W.mg_of X G n_NoEntry) (by decide +kernel) sf_Missing t_Missing si_NoEntry_Missing (xis_cons (PySem.W.mg_of X G n_NoThing) (by decide +kernel) sf_Missing t_Missing si_NoThing_Missing (xis_cons (PySem.W.mg_of X G n_NoNumber) (by decide +kernel) sf_Missing t_Missing si_NoNumber_Missing (xis_cons (PySem.W.mg_of X G n_NotAbove) (by decide +kernel) sf_Missing t_Missing si_NotAbove_Missing (xis_cons (PySem.W.mg_of X G n_Shut) (by decide +kernel) sf_Missing t_Missing si_Shut_Missing (xis_cons (PySem.W.mg_of X G n_NoText) (by decide +kernel) sf_Missing t_Missing si_NoText_Missing (xis_cons (PySem.W.mg_of X G n_NoRow) (by decide +kernel) sf_Missing t_Missing si_NoRow_Missing (xis_cons (PySem.W.mg_of X G n_Ring) (by decide +kernel) sf_Missing t_Missing si_Ring_Missing (xis_cons (PySem.W.mg_of X G n_Round) (by decide +kernel) sf_Missing t_Missing si_Round_Missing (xis_cons (PySem.W.mg_of X G n_Missing) (by decide +kernel) sf_Missing t_Missing si_Missing_Missing (xis_cons (PySem.W.mg_of X G n_Endless) (by decide +kernel) sf_Missing t_Missing si_Endless_Missing xis_nil))))))))))))))))⟩
  have I_Endless : XIs K mg ["NoName", "NoKind", "NoParents", "Taken", "InUse", "NoEntry", "NoThing", "NoNumber", "NotAbove", "Shut", "NoText", "NoRow", "Ring", "Round", "Missing", "Endless"] "Endless" := ⟨_, PySem.W.mg_of X G n_Endless, (xis_cons (PySem.W.mg_of X G n_NoName) (by decide +kernel) sf_Endless t_Endless si_NoName_Endless (xis_cons (PySem.W.mg_of X G n_NoKind) (by decide +kernel) sf_Endless t_Endless si_NoKind_Endless (xis_cons (PySem.W.mg_of X G n_NoParents) (by decide +kernel) sf_Endless t_Endless si_NoParents_Endless (xis_cons (PySem.W.mg_of X G n_Taken) (by decide +kernel) sf_Endless t_Endless si_Taken_Endless (xis_cons (PySem.W.mg_of X G n_InUse) (by decide +kernel) sf_Endless t_Endless si_InUse_Endless (xis_cons (PySem.W.mg_of X G n_NoEntry) (by decide +kernel) sf_Endless t_Endless si_NoEntry_Endless (xis_cons (PySem.W.mg_of X G n_NoThing) (by decide +kernel) sf_Endless t_Endless si_NoThing_Endless (xis_cons (PySem.W.mg_of X G n_NoNumber) (by decide +kernel) sf_Endless t_Endless si_NoNumber_Endless (xis_cons (PySem.W.mg_of X G n_NotAbove) (by decide +kernel) sf_Endless t_Endless si_NotAbove_Endless (xis_cons (PySem.W.mg_of X G n_Shut) (by decide +kernel) sf_Endless t_Endless si_Shut_Endless (xis_cons (PySem.W.mg_of X G n_NoText) (by decide +kernel) sf_Endless t_Endless si_NoText_Endless (xis_cons (PySem.W.mg_of X G n_NoRow) (by decide +kernel) sf_Endless t_Endless si_NoRow_Endless (xis_cons (PySem.W.mg_of X G n_Ring) (by decide +kernel) sf_Endless t_Endless si_Ring_Endless (xis_cons (PySem.W.mg_of X G n_Round) (by decide +kernel) sf_Endless t_Endless si_Round_Endless (xis_cons (PySem.W.mg_of X G n_Missing) (by decide +kernel) sf_Endless t_Endless si_Missing_Endless (xis_cons (PySem.W.mg_of X G n_Endless) (by decide +kernel) sf_Endless t_Endless si_Endless_Endless xis_nil))))))))))))))))⟩
  have IB_LineError : XIsB K mg ["NoName", "NoKind", "NoParents", "Taken", "InUse", "NoEntry", "NoThing", "NoNumber", "NotAbove", "Shut", "NoText", "NoRow", "Ring", "Round", "Missing", "Endless"] "LineError" := ⟨_, PySem.W.mg_of X G n_LineError, (xisb_cons (PySem.W.mg_of X G n_NoName) sf_LineError t_LineError si_NoName_LineError (xisb_cons (PySem.W.mg_of X G n_NoKind) sf_LineError t_LineError si_NoKind_LineError (xisb_cons (PySem.W.mg_of X G n_NoParents) sf_LineError t_LineError si_NoParents_LineError (xisb_cons (PySem.W.mg_of X G n_Taken) sf_LineError t_LineError si_Taken_LineError (xisb_cons (PySem.W.mg_of X G n_InUse) sf_LineError t_LineError si_InUse_LineError (xisb_cons (PySem.W.mg_of X G n_NoEntry) sf_LineError t_LineError si_NoEntry_LineError (xisb_cons (PySem.W.mg_of X G n_NoThing) sf_LineError t_LineError si_NoThing_LineError (xisb_cons (PySem.W.mg_of X G n_NoNumber) sf_LineError t_LineError si_NoNumber_LineError (xisb_cons (PySem.W.mg_of X G n_NotAbove) sf_LineError t_LineError si_NotAbove_LineError (xisb_cons (PySem.W.mg_of X G n_Shut) sf_LineError t_LineError si_Shut_LineError (xisb_cons (PySem.W.mg_of X G n_NoText) sf_LineError t_LineError si_NoText_LineError (xisb_cons (PySem.W.mg_of X G n_NoRow) sf_LineError t_LineError si_NoRow_LineError (xisb_cons (PySem.W.mg_of X G n_Ring) sf_LineError t_LineError si_Ring_LineError (xisb_cons (PySem.W.mg_of X G n_Round) sf_LineError t_LineError si_Round_LineError (xisb_cons (PySem.W.mg_of X G n_Missing) sf_LineError t_LineError si_Missing_LineError (xisb_cons (PySem.W.mg_of X G n_Endless) sf_LineError t_LineError si_Endless_LineError xisb_nil))))))))))))))))⟩
  have F__law_pot := fun_mk (st := s__law_pot) l__law_pot c__law_pot k__law_pot
  have B__law_pot := F__law_pot.binds (ps := ["_law_script", "_law_k"]) fun _ _ _ _ _ _ us hl => match us, hl with | [_, _], _ => rfl
  have F__law_digit := fun_mk (st := s__law_digit) l__law_digit c__law_digit k__law_digit
  have B__law_digit := F__law_digit.binds (ps := ["_law_pot_here", "_law_many"]) fun _ _ _ _ _ _ us hl => match us, hl with | [_, _], _ => rfl
  have F__law_names := fun_mk (st := s__law_names) l__law_names c__law_names k__law_names
  have B__law_names := F__law_names.binds (ps := ["_law_pot_here", "_law_many"]) fun _ _ _ _ _ _ us hl => match us, hl with | [_, _], _ => rfl
  have F__law_kinds := fun_mk (st := s__law_kinds) l__law_kinds c__law_kinds k__law_kinds
  have B__law_kinds := F__law_kinds.binds (ps := ["_law_e"]) fun _ _ _ _ _ _ us hl => match us, hl with | [_], _ => rfl
  have F_law := fun_mk (st := s_law) l_law c_law k_law
  have B_law := F_law.binds (ps := ["_law_script"]) fun _ _ _ _ _ _ us hl => match us, hl with | [_], _ => rfl
  refine ⟨PySem.W.fnOf "law" "law" (defArgs s_law) (defBody s_law) (defScope s_law) .none kv_law dc_law pm_law an_law cd_law ct_law, fun s v => .of_eq rfl, fun base hK hG => ?_⟩
  have F_Ringi := fun_mk (st := s_Ringi) l_Ringi c_Ringi k_Ringi
  have B_Ringi := F_Ringi.binds (ps := ["self", "kind", "ring"]) fun _ _ _ _ _ _ us hl => match us, hl with | [_, _, _], _ => rfl
  have X_Ring : XCF l.prog w K mg base "Ring" ["kind", "ring"] := ⟨C_Ring, f_Ringi, _, _, PySem.W.mg_of X G n_Ring, ⟨⟨nm_Ring, q_Ring, N_Ring, bs_Ring, bm_Ring, sn_Ring, sub_Ring, ab_Ring, col_Ring, dd_Ring, m0_Ring, m1_Ring, m2_Ring, m3_Ring, m5_Ring, xl_Ring, xr_Ring⟩, sa_Ring, s_Ring, t_Ring, kc_Ring⟩, a_Ringi, ty_Ringi, ok_Ringi F_Ringi B, B_Ringi, ⟨ga_Ring, gg_Ring, s_Ring, hd_Ring⟩, (all_cons nf_Ring_kind (all_cons nf_Ring_ring (all_nil)))⟩
  have F_Roundi := fun_mk (st := s_Roundi) l_Roundi c_Roundi k_Roundi
  have B_Roundi := F_Roundi.binds (ps := ["self", "way"]) fun _ _ _ _ _ _ us hl => match us, hl with | [_, _], _ => rfl
  have X_Round : XCF l.prog w K mg base "Round" ["way"] := ⟨C_Round, f_Roundi, _, _, PySem.W.mg_of X G n_Round, ⟨⟨nm_Round, q_Round, N_Round, bs_Round, bm_Round, sn_Round, sub_Round, ab_Round, col_Round, dd_Round, m0_Round, m1_Round, m2_Round, m3_Round, m5_Round, xl_Round, xr_Round⟩, sa_Round, s_Round, t_Round, kc_Round⟩, a_Roundi, ty_Roundi, ok_Roundi F_Roundi B, B_Roundi, ⟨ga_Round, gg_Round, s_Round, hd_Round⟩, (all_cons nf_Round_way (all_nil))⟩
  have F_Missingi := fun_mk (st := s_Missingi) l_Missingi c_Missingi k_Missingi
  have B_Missingi := F_Missingi.binds (ps := ["self", "name"]) fun _ _ _ _ _ _ us hl => match us, hl with | [_, _], _ => rfl
  have X_Missing : XCF l.prog w K mg base "Missing" ["name"] := ⟨C_Missing, f_Missingi, _, _, PySem.W.mg_of X G n_Missing, ⟨⟨nm_Missing, q_Missing, N_Missing, bs_Missing, bm_Missing, sn_Missing, sub_Missing, ab_Missing, col_Missing, dd_Missing, m0_Missing, m1_Missing, m2_Missing, m3_Missing, m5_Missing, xl_Missing, xr_Missing⟩, sa_Missing, s_Missing, t_Missing, kc_Missing⟩, a_Missingi, ty_Missingi, ok_Missingi F_Missingi B, B_Missingi, ⟨ga_Missing, gg_Missing, s_Missing, hd_Missing⟩, (all_cons nf_Missing_name (all_nil))⟩
  have F_Endlessi := fun_mk (st := s_Endlessi) l_Endlessi c_Endlessi k_Endlessi
  have B_Endlessi := F_Endlessi.binds (ps := ["self", "names"]) fun _ _ _ _ _ _ us hl => match us, hl with | [_, _], _ => rfl
  have X_Endless : XCF l.prog w K mg base "Endless" ["names"] := ⟨C_Endless, f_Endlessi, _, _, PySem.W.mg_of X G n_Endless, ⟨⟨nm_Endless, q_Endless, N_Endless, bs_Endless, bm_Endless, sn_Endless, sub_Endless, ab_Endless, col_Endless, dd_Endless, m0_Endless, m1_Endless, m2_Endless, m3_Endless, m5_Endless, xl_Endless, xr_Endless⟩, sa_Endless, s_Endless, t_Endless, kc_Endless⟩, a_Endlessi, ty_Endlessi, ok_Endlessi F_Endlessi B, B_Endlessi, ⟨ga_Endless, gg_Endless, s_Endless, hd_Endless⟩, (all_cons nf_Endless_names (all_nil))⟩
  have T__law_pot : Has l.prog w K mg base "_law_pot" ["_law_script", "_law_k"] 1 w__law_pot := ⟨_, _, ok__law_pot F__law_pot nb, PySem.W.mg_of X G a__law_pot, k__law_pot, B__law_pot⟩
  have T__law_digit : Has l.prog w K mg base "_law_digit" ["_law_pot_here", "_law_many"] 1 w__law_digit := ⟨_, _, ok__law_digit F__law_digit nb, PySem.W.mg_of X G a__law_digit, k__law_digit, B__law_digit⟩
  have T__law_names : Has l.prog w K mg base "_law_names" ["_law_pot_here", "_law_many"] 2 w__law_names := ⟨_, _, ok__law_names F__law_names nb T__law_digit, PySem.W.mg_of X G a__law_names, k__law_names, B__law_names⟩
  have T__law_kinds : Has l.prog w K mg base "_law_kinds" ["_law_e"] 1 w__law_kinds := ⟨_, _, ok__law_kinds F__law_kinds nb V I_Endless I_InUse I_Missing I_NoEntry I_NoKind I_NoName I_NoNumber I_NoParents I_NoRow I_NoText I_NoThing I_NotAbove I_Ring I_Round I_Shut I_Taken, PySem.W.mg_of X G a__law_kinds, k__law_kinds, B__law_kinds⟩
  exact (ok_law (P := l.prog) (w := w) (base := base) F_law nb T__law_kinds T__law_names T__law_pot X_Endless X_InUse X_Missing X_NoEntry X_NoKind X_NoName X_NoNumber X_NoParents X_NoRow X_NoText X_NoThing X_NotAbove X_Ring X_Round X_Shut X_Taken IB_LineError V nv).imp fun vs H Q E h => law_in (fun _ h => nomatch h) hlaw h
theorem walk {l : PySem.W.OpenLaw} {q : Program} {loose : List Str} {XP : (Str → Option Value) → Heap → Prop} {YP : World → Heap → Prop} {d : DefRec} {K : Params → Fg} (hn : l.most = some 63) (hdf : d.params.defaults = [])
    (hY : ∀ (w : World) (h : Heap), YP w h → (K w.params).In h)
    (F : ∀ (w : World) (mg : Str → Option Value) (fa : Addr) (h : Heap), (K w.params).In h → h.Ns mainGlobals mg → mg d.name = some (.ref fa) →
      ∃ fd : FuncData, (∀ (s : Shared) (u : Value), BindsTo s fd ⟨[u], []⟩ [("_law_script", u)]) ∧ ∀ base : Heap, (K w.params).In base → base.Ns mainGlobals mg → FnOk l.prog w (K w.params) mg base (LM.CX true l.prog w) 3 fa fd ["_law_script"] (spLaw (K w.params))) :
    PySem.W.WalkO q loose XP YP l.row.toRowW d [] (fun f vs => PySem.call f vs) :=
  L2.walk_of (n := 63) (k := 3) (x := "_law_script") (CX := fun w => LM.CX true l.prog w) (sp := fun w => spLaw (K w.params)) hn (by decide) hdf ⟨rfl, by decide, by decide⟩ hY F (fun _ _ a ns hl _ hS => ⟨a, ns, rfl, hS, hl, fun _ => rfl⟩) fun _ _ _ _ _ z => no_cx z
end Dl
open PySem PySem.W PyProof.Rows
set_option maxRecDepth 100000 in
set_option maxHeartbeats 0 in
theorem PySem.Challenge.cw_parentlines_k15_refusals_made_holds : PySem.Challenge.rw_parentlines_k15_refusals_made.Holds := by
  w_on; o_law; k_head; (case hw => w_witness2)
  k_fill
  refine Dl.walk (l := PySem.Challenge.rw_parentlines_k15_refusals_made) rfl rfl (fun w h Y => PySem.W.kIn_of Y) ?F
  case F =>
    intro w mg fa h KX G hmg
    refine' Dl.all_mk KX G hmg ?n_LineError ?n_NoName ?n_NoKind ?n_NoParents ?n_Taken ?n_InUse ?n_NoEntry ?n_NoThing ?n_NoNumber ?n_NotAbove ?n_Shut ?n_NoText ?n_NoRow ?n_Ring ?n_Round ?n_Missing ?n_Endless ?s_LineError ?t_LineError ?kc_LineError ?s_NoName ?t_NoName ?kc_NoName ?x_NoName ?s_NoKind ?t_NoKind ?kc_NoKind ?x_NoKind ?s_NoParents ?t_NoParents ?kc_NoParents ?x_NoParents ?s_Taken ?t_Taken ?kc_Taken ?x_Taken ?s_InUse ?t_InUse ?kc_InUse ?x_InUse ?s_NoEntry ?t_NoEntry ?kc_NoEntry ?x_NoEntry ?s_NoThing ?t_NoThing ?kc_NoThing ?x_NoThing ?s_NoNumber ?t_NoNumber ?kc_NoNumber ?x_NoNumber ?s_NotAbove ?t_NotAbove ?kc_NotAbove ?x_NotAbove ?s_Shut ?t_Shut ?kc_Shut ?x_Shut ?s_NoText ?t_NoText ?kc_NoText ?x_NoText ?s_NoRow ?t_NoRow ?kc_NoRow ?x_NoRow ?s_Ring ?t_Ring ?kc_Ring ?xl_Ring ?xr_Ring ?sa_Ring ?ga_Ring ?gg_Ring ?hd_Ring ?nf_Ring_kind ?nf_Ring_ring ?a_Ringi ?l_Ringi ?c_Ringi ?k_Ringi ?ty_Ringi ?s_Round ?t_Round ?kc_Round ?xl_Round ?xr_Round ?sa_Round ?ga_Round ?gg_Round ?hd_Round ?nf_Round_way ?a_Roundi ?l_Roundi ?c_Roundi ?k_Roundi ?ty_Roundi ?s_Missing ?t_Missing ?kc_Missing ?xl_Missing ?xr_Missing ?sa_Missing ?ga_Missing ?gg_Missing ?hd_Missing ?nf_Missing_name ?a_Missingi ?l_Missingi ?c_Missingi ?k_Missingi ?ty_Missingi ?s_Endless ?t_Endless ?kc_Endless ?xl_Endless ?xr_Endless ?sa_Endless ?ga_Endless ?gg_Endless ?hd_Endless ?nf_Endless_names ?a_Endlessi ?l_Endlessi ?c_Endlessi ?k_Endlessi ?ty_Endlessi ?rd_LE ?sp_LE ?fc_LE ?eh_n ?eh_t ?eg_NoName ?ek_NoName ?ed_NoName ?ea_NoName ?em_NoName ?ev_NoName ?eg_NoKind ?ek_NoKind ?ed_NoKind ?ea_NoKind ?em_NoKind ?ev_NoKind ?eg_NoParents ?ek_NoParents ?ed_NoParents ?ea_NoParents ?em_NoParents ?ev_NoParents ?eg_Taken ?ek_Taken ?ed_Taken ?ea_Taken ?em_Taken ?ev_Taken ?eg_InUse ?ek_InUse ?ed_InUse ?ea_InUse ?em_InUse ?ev_InUse ?eg_NoEntry ?ek_NoEntry ?ed_NoEntry ?ea_NoEntry ?em_NoEntry ?ev_NoEntry ?eg_NoThing ?ek_NoThing ?ed_NoThing ?ea_NoThing ?em_NoThing ?ev_NoThing ?eg_NoNumber ?ek_NoNumber ?ed_NoNumber ?ea_NoNumber ?em_NoNumber ?ev_NoNumber ?eg_NotAbove ?ek_NotAbove ?ed_NotAbove ?ea_NotAbove ?em_NotAbove ?ev_NotAbove ?eg_Shut ?ek_Shut ?ed_Shut ?ea_Shut ?em_Shut ?ev_Shut ?eg_NoText ?ek_NoText ?ed_NoText ?ea_NoText ?em_NoText ?ev_NoText ?eg_NoRow ?ek_NoRow ?ed_NoRow ?ea_NoRow ?em_NoRow ?ev_NoRow ?eg_Ring ?ek_Ring ?ed_Ring ?ea_Ring ?em_Ring ?ev_Ring ?eg_Round ?ek_Round ?ed_Round ?ea_Round ?em_Round ?ev_Round ?eg_Missing ?ek_Missing ?ed_Missing ?ea_Missing ?em_Missing ?ev_Missing ?eg_Endless ?ek_Endless ?ed_Endless ?ea_Endless ?em_Endless ?ev_Endless ?sf_NoName ?si_NoName_NoName ?si_NoKind_NoName ?si_NoParents_NoName ?si_Taken_NoName ?si_InUse_NoName ?si_NoEntry_NoName ?si_NoThing_NoName ?si_NoNumber_NoName ?si_NotAbove_NoName ?si_Shut_NoName ?si_NoText_NoName ?si_NoRow_NoName ?si_Ring_NoName ?si_Round_NoName ?si_Missing_NoName ?si_Endless_NoName ?sf_NoKind ?si_NoName_NoKind ?si_NoKind_NoKind ?si_NoParents_NoKind ?si_Taken_NoKind ?si_InUse_NoKind ?si_NoEntry_NoKind ?si_NoThing_NoKind ?si_NoNumber_NoKind ?si_NotAbove_NoKind ?si_Shut_NoKind ?si_NoText_NoKind ?si_NoRow_NoKind ?si_Ring_NoKind ?si_Round_NoKind ?si_Missing_NoKind ?si_Endless_NoKind ?sf_NoParents ?si_NoName_NoParents ?si_NoKind_NoParents ?si_NoParents_NoParents ?si_Taken_NoParents ?si_InUse_NoParents ?si_NoEntry_NoParents ?si_NoThing_NoParents ?si_NoNumber_NoParents ?si_NotAbove_NoParents ?si_Shut_NoParents ?si_NoText_NoParents ?si_NoRow_NoParents ?si_Ring_NoParents ?si_Round_NoParents ?si_Missing_NoParents ?si_Endless_NoParents ?sf_Taken ?si_NoName_Taken ?si_NoKind_Taken ?si_NoParents_Taken ?si_Taken_Taken ?si_InUse_Taken ?si_NoEntry_Taken ?si_NoThing_Taken ?si_NoNumber_Taken ?si_NotAbove_Taken ?si_Shut_Taken ?si_NoText_Taken ?si_NoRow_Taken ?si_Ring_Taken ?si_Round_Taken ?si_Missing_Taken ?si_Endless_Taken ?sf_InUse ?si_NoName_InUse ?si_NoKind_InUse ?si_NoParents_InUse ?si_Taken_InUse ?si_InUse_InUse ?si_NoEntry_InUse ?si_NoThing_InUse ?si_NoNumber_InUse ?si_NotAbove_InUse ?si_Shut_InUse ?si_NoText_InUse ?si_NoRow_InUse ?si_Ring_InUse ?si_Round_InUse ?si_Missing_InUse ?si_Endless_InUse ?sf_NoEntry ?si_NoName_NoEntry ?si_NoKind_NoEntry ?si_NoParents_NoEntry ?si_Taken_NoEntry ?si_InUse_NoEntry ?si_NoEntry_NoEntry ?si_NoThing_NoEntry ?si_NoNumber_NoEntry ?si_NotAbove_NoEntry ?si_Shut_NoEntry ?si_NoText_NoEntry ?si_NoRow_NoEntry ?si_Ring_NoEntry ?si_Round_NoEntry ?si_Missing_NoEntry ?si_Endless_NoEntry ?sf_NoThing ?si_NoName_NoThing ?si_NoKind_NoThing ?si_NoParents_NoThing ?si_Taken_NoThing ?si_InUse_NoThing ?si_NoEntry_NoThing ?si_NoThing_NoThing ?si_NoNumber_NoThing ?si_NotAbove_NoThing ?si_Shut_NoThing ?si_NoText_NoThing ?si_NoRow_NoThing ?si_Ring_NoThing ?si_Round_NoThing ?si_Missing_NoThing ?si_Endless_NoThing ?sf_NoNumber ?si_NoName_NoNumber ?si_NoKind_NoNumber ?si_NoParents_NoNumber ?si_Taken_NoNumber ?si_InUse_NoNumber ?si_NoEntry_NoNumber ?si_NoThing_NoNumber ?si_NoNumber_NoNumber ?si_NotAbove_NoNumber ?si_Shut_NoNumber ?si_NoText_NoNumber ?si_NoRow_NoNumber ?si_Ring_NoNumber ?si_Round_NoNumber ?si_Missing_NoNumber ?si_Endless_NoNumber ?sf_NotAbove ?si_NoName_NotAbove ?si_NoKind_NotAbove ?si_NoParents_NotAbove ?si_Taken_NotAbove ?si_InUse_NotAbove ?si_NoEntry_NotAbove ?si_NoThing_NotAbove ?si_NoNumber_NotAbove ?si_NotAbove_NotAbove ?si_Shut_NotAbove ?si_NoText_NotAbove ?si_NoRow_NotAbove ?si_Ring_NotAbove ?si_Round_NotAbove ?si_Missing_NotAbove ?si_Endless_NotAbove ?sf_Shut ?si_NoName_Shut ?si_NoKind_Shut ?si_NoParents_Shut ?si_Taken_Shut ?si_InUse_Shut ?si_NoEntry_Shut ?si_NoThing_Shut ?si_NoNumber_Shut ?si_NotAbove_Shut ?si_Shut_Shut ?si_NoText_Shut ?si_NoRow_Shut ?si_Ring_Shut ?si_Round_Shut ?si_Missing_Shut ?si_Endless_Shut ?sf_NoText ?si_NoName_NoText ?si_NoKind_NoText ?si_NoParents_NoText ?si_Taken_NoText ?si_InUse_NoText ?si_NoEntry_NoText ?si_NoThing_NoText ?si_NoNumber_NoText ?si_NotAbove_NoText ?si_Shut_NoText ?si_NoText_NoText ?si_NoRow_NoText ?si_Ring_NoText ?si_Round_NoText ?si_Missing_NoText ?si_Endless_NoText ?sf_NoRow ?si_NoName_NoRow ?si_NoKind_NoRow ?si_NoParents_NoRow ?si_Taken_NoRow ?si_InUse_NoRow ?si_NoEntry_NoRow ?si_NoThing_NoRow ?si_NoNumber_NoRow ?si_NotAbove_NoRow ?si_Shut_NoRow ?si_NoText_NoRow ?si_NoRow_NoRow ?si_Ring_NoRow ?si_Round_NoRow ?si_Missing_NoRow ?si_Endless_NoRow ?sf_Ring ?si_NoName_Ring ?si_NoKind_Ring ?si_NoParents_Ring ?si_Taken_Ring ?si_InUse_Ring ?si_NoEntry_Ring ?si_NoThing_Ring ?si_NoNumber_Ring ?si_NotAbove_Ring ?si_Shut_Ring ?si_NoText_Ring ?si_NoRow_Ring ?si_Ring_Ring ?si_Round_Ring ?si_Missing_Ring ?si_Endless_Ring ?sf_Round ?si_NoName_Round ?si_NoKind_Round ?si_NoParents_Round ?si_Taken_Round ?si_InUse_Round ?si_NoEntry_Round ?si_NoThing_Round ?si_NoNumber_Round ?si_NotAbove_Round ?si_Shut_Round ?si_NoText_Round ?si_NoRow_Round ?si_Ring_Round ?si_Round_Round ?si_Missing_Round ?si_Endless_Round ?sf_Missing ?si_NoName_Missing ?si_NoKind_Missing ?si_NoParents_Missing ?si_Taken_Missing ?si_InUse_Missing ?si_NoEntry_Missing ?si_NoThing_Missing ?si_NoNumber_Missing ?si_NotAbove_Missing ?si_Shut_Missing ?si_NoText_Missing ?si_NoRow_Missing ?si_Ring_Missing ?si_Round_Missing ?si_Missing_Missing ?si_Endless_Missing ?sf_Endless ?si_NoName_Endless ?si_NoKind_Endless ?si_NoParents_Endless ?si_Taken_Endless ?si_InUse_Endless ?si_NoEntry_Endless ?si_NoThing_Endless ?si_NoNumber_Endless ?si_NotAbove_Endless ?si_Shut_Endless ?si_NoText_Endless ?si_NoRow_Endless ?si_Ring_Endless ?si_Round_Endless ?si_Missing_Endless ?si_Endless_Endless ?sf_LineError ?si_NoName_LineError ?si_NoKind_LineError ?si_NoParents_LineError ?si_Taken_LineError ?si_InUse_LineError ?si_NoEntry_LineError ?si_NoThing_LineError ?si_NoNumber_LineError ?si_NotAbove_LineError ?si_Shut_LineError ?si_NoText_LineError ?si_NoRow_LineError ?si_Ring_LineError ?si_Round_LineError ?si_Missing_LineError ?si_Endless_LineError ?b_ValueError ?a__law_pot ?l__law_pot ?c__law_pot ?k__law_pot ?a__law_digit ?l__law_digit ?c__law_digit ?k__law_digit ?a__law_names ?l__law_names ?c__law_names ?k__law_names ?a__law_kinds ?l__law_kinds ?c__law_kinds ?k__law_kinds ?a_law ?l_law ?c_law ?k_law ?b_len ?b_abs ?b_max ?b_min ?b_tuple ?b_list ?b_all ?b_any ?b_sorted ?b_set ?b_isinstance ?b_range ?b_enumerate ?b_zip ?b_int ?b_str ?b_bool ?b_dict ?b_repr ?b_sum ?b_type ?b_reversed Dl.law_true
    (case n_LineError => k_is)
    (case n_NoName => k_is)
    (case n_NoKind => k_is)
    (case n_NoParents => k_is)
    (case n_Taken => k_is)
    (case n_InUse => k_is)
    (case n_NoEntry => k_is)
    (case n_NoThing => k_is)
    (case n_NoNumber => k_is)
    (case n_NotAbove => k_is)
    (case n_Shut => k_is)
    (case n_NoText => k_is)
    (case n_NoRow => k_is)
    (case n_Ring => k_is)
    (case n_Round => k_is)
    (case n_Missing => k_is)
    (case n_Endless => k_is)
    (case s_LineError => k_is)
    (case t_LineError => k_is)
    (case kc_LineError => k_is)
    (case s_NoName => k_is)
    (case t_NoName => k_is)
    (case kc_NoName => k_is)
    (case x_NoName => k_exc)
    (case s_NoKind => k_is)
    (case t_NoKind => k_is)
    (case kc_NoKind => k_is)
    (case x_NoKind => k_exc)
    (case s_NoParents => k_is)
    (case t_NoParents => k_is)
    (case kc_NoParents => k_is)
    (case x_NoParents => k_exc)
    (case s_Taken => k_is)
    (case t_Taken => k_is)
    (case kc_Taken => k_is)
    (case x_Taken => k_exc)
    (case s_InUse => k_is)
    (case t_InUse => k_is)
    (case kc_InUse => k_is)
    (case x_InUse => k_exc)
    (case s_NoEntry => k_is)
    (case t_NoEntry => k_is)
    (case kc_NoEntry => k_is)
    (case x_NoEntry => k_exc)
    (case s_NoThing => k_is)
    (case t_NoThing => k_is)
    (case kc_NoThing => k_is)
    (case x_NoThing => k_exc)
    (case s_NoNumber => k_is)
    (case t_NoNumber => k_is)
    (case kc_NoNumber => k_is)
    (case x_NoNumber => k_exc)
    (case s_NotAbove => k_is)
    (case t_NotAbove => k_is)
    (case kc_NotAbove => k_is)
    (case x_NotAbove => k_exc)
    (case s_Shut => k_is)
    (case t_Shut => k_is)
    (case kc_Shut => k_is)
    (case x_Shut => k_exc)
    (case s_NoText => k_is)
    (case t_NoText => k_is)
    (case kc_NoText => k_is)
    (case x_NoText => k_exc)
    (case s_NoRow => k_is)
    (case t_NoRow => k_is)
    (case kc_NoRow => k_is)
    (case x_NoRow => k_exc)
    (case s_Ring => k_is)
    (case t_Ring => k_is)
    (case kc_Ring => k_is)
    (case xl_Ring => k_is)
    (case xr_Ring => first | rfl | decide +kernel)
    (case sa_Ring => k_is)
    (case ga_Ring => k_is)
    (case gg_Ring => k_is)
    (case hd_Ring => k_is)
    (case nf_Ring_kind => k_is)
    (case nf_Ring_ring => k_is)
    (case a_Ringi => k_is)
    (case l_Ringi => k_is)
    (case c_Ringi => k_is)
    (case k_Ringi => k_is)
    (case ty_Ringi => k_is)
    (case s_Round => k_is)
    (case t_Round => k_is)
    (case kc_Round => k_is)
    (case xl_Round => k_is)
    (case xr_Round => first | rfl | decide +kernel)
    (case sa_Round => k_is)
    (case ga_Round => k_is)
    (case gg_Round => k_is)
    (case hd_Round => k_is)
    (case nf_Round_way => k_is)
    (case a_Roundi => k_is)
    (case l_Roundi => k_is)
    (case c_Roundi => k_is)
    (case k_Roundi => k_is)
    (case ty_Roundi => k_is)
    (case s_Missing => k_is)
    (case t_Missing => k_is)
    (case kc_Missing => k_is)
    (case xl_Missing => k_is)
    (case xr_Missing => first | rfl | decide +kernel)
    (case sa_Missing => k_is)
    (case ga_Missing => k_is)
    (case gg_Missing => k_is)
    (case hd_Missing => k_is)
    (case nf_Missing_name => k_is)
    (case a_Missingi => k_is)
    (case l_Missingi => k_is)
    (case c_Missingi => k_is)
    (case k_Missingi => k_is)
    (case ty_Missingi => k_is)
    (case s_Endless => k_is)
    (case t_Endless => k_is)
    (case kc_Endless => k_is)
    (case xl_Endless => k_is)
    (case xr_Endless => first | rfl | decide +kernel)
    (case sa_Endless => k_is)
    (case ga_Endless => k_is)
    (case gg_Endless => k_is)
    (case hd_Endless => k_is)
    (case nf_Endless_names => k_is)
    (case a_Endlessi => k_is)
    (case l_Endlessi => k_is)
    (case c_Endlessi => k_is)
    (case k_Endlessi => k_is)
    (case ty_Endlessi => k_is)
    (case rd_LE => k_is)
    (case sp_LE => k_is)
    (case fc_LE => k_is)
    (case eh_n => k_is)
    (case eh_t => k_is)
    (case eg_NoName => k_is)
    (case ek_NoName => k_is)
    (case ed_NoName => k_is)
    (case ea_NoName => k_is)
    (case em_NoName => k_is)
    (case ev_NoName => k_is)
    (case eg_NoKind => k_is)
    (case ek_NoKind => k_is)
    (case ed_NoKind => k_is)
    (case ea_NoKind => k_is)
    (case em_NoKind => k_is)
    (case ev_NoKind => k_is)
    (case eg_NoParents => k_is)
    (case ek_NoParents => k_is)
    (case ed_NoParents => k_is)
    (case ea_NoParents => k_is)
    (case em_NoParents => k_is)
    (case ev_NoParents => k_is)
    (case eg_Taken => k_is)
    (case ek_Taken => k_is)
    (case ed_Taken => k_is)
    (case ea_Taken => k_is)
    (case em_Taken => k_is)
    (case ev_Taken => k_is)
    (case eg_InUse => k_is)
    (case ek_InUse => k_is)
    (case ed_InUse => k_is)
    (case ea_InUse => k_is)
    (case em_InUse => k_is)
    (case ev_InUse => k_is)
    (case eg_NoEntry => k_is)
    (case ek_NoEntry => k_is)
    (case ed_NoEntry => k_is)
    (case ea_NoEntry => k_is)
    (case em_NoEntry => k_is)
    (case ev_NoEntry => k_is)
    (case eg_NoThing => k_is)
    (case ek_NoThing => k_is)
    (case ed_NoThing => k_is)
    (case ea_NoThing => k_is)
    (case em_NoThing => k_is)
    (case ev_NoThing => k_is)
    (case eg_NoNumber => k_is)
    (case ek_NoNumber => k_is)
    (case ed_NoNumber => k_is)
    (case ea_NoNumber => k_is)
    (case em_NoNumber => k_is)
    (case ev_NoNumber => k_is)
    (case eg_NotAbove => k_is)
    (case ek_NotAbove => k_is)
    (case ed_NotAbove => k_is)
    (case ea_NotAbove => k_is)
    (case em_NotAbove => k_is)
    (case ev_NotAbove => k_is)
    (case eg_Shut => k_is)
    (case ek_Shut => k_is)
    (case ed_Shut => k_is)
    (case ea_Shut => k_is)
    (case em_Shut => k_is)
    (case ev_Shut => k_is)
    (case eg_NoText => k_is)
    (case ek_NoText => k_is)
    (case ed_NoText => k_is)
    (case ea_NoText => k_is)
    (case em_NoText => k_is)
    (case ev_NoText => k_is)
    (case eg_NoRow => k_is)
    (case ek_NoRow => k_is)
    (case ed_NoRow => k_is)
    (case ea_NoRow => k_is)
    (case em_NoRow => k_is)
    (case ev_NoRow => k_is)
    (case eg_Ring => k_is)
    (case ek_Ring => k_is)
    (case ed_Ring => k_is)
    (case ea_Ring => k_is)
    (case em_Ring => k_is)
    (case ev_Ring => k_is)
    (case eg_Round => k_is)
    (case ek_Round => k_is)
    (case ed_Round => k_is)
    (case ea_Round => k_is)
    (case em_Round => k_is)
    (case ev_Round => k_is)
    (case eg_Missing => k_is)
    (case ek_Missing => k_is)
    (case ed_Missing => k_is)
    (case ea_Missing => k_is)
    (case em_Missing => k_is)
    (case ev_Missing => k_is)
    (case eg_Endless => k_is)
    (case ek_Endless => k_is)
    (case ed_Endless => k_is)
    (case ea_Endless => k_is)
    (case em_Endless => k_is)
    (case ev_Endless => k_is)
    (case sf_NoName => k_is)
    (case si_NoName_NoName => k_is)
    (case si_NoKind_NoName => k_is)
    (case si_NoParents_NoName => k_is)
    (case si_Taken_NoName => k_is)
    (case si_InUse_NoName => k_is)
    (case si_NoEntry_NoName => k_is)
    (case si_NoThing_NoName => k_is)
    (case si_NoNumber_NoName => k_is)
    (case si_NotAbove_NoName => k_is)
    (case si_Shut_NoName => k_is)
    (case si_NoText_NoName => k_is)
    (case si_NoRow_NoName => k_is)
    (case si_Ring_NoName => k_is)
    (case si_Round_NoName => k_is)
    (case si_Missing_NoName => k_is)
    (case si_Endless_NoName => k_is)
    (case sf_NoKind => k_is)
    (case si_NoName_NoKind => k_is)
    (case si_NoKind_NoKind => k_is)
    (case si_NoParents_NoKind => k_is)
    (case si_Taken_NoKind => k_is)
    (case si_InUse_NoKind => k_is)
    (case si_NoEntry_NoKind => k_is)
    (case si_NoThing_NoKind => k_is)
    (case si_NoNumber_NoKind => k_is)
    (case si_NotAbove_NoKind => k_is)
    (case si_Shut_NoKind => k_is)
    (case si_NoText_NoKind => k_is)
    (case si_NoRow_NoKind => k_is)
    (case si_Ring_NoKind => k_is)
    (case si_Round_NoKind => k_is)
    (case si_Missing_NoKind => k_is)
    (case si_Endless_NoKind => k_is)
    (case sf_NoParents => k_is)
    (case si_NoName_NoParents => k_is)
    (case si_NoKind_NoParents => k_is)
    (case si_NoParents_NoParents => k_is)
    (case si_Taken_NoParents => k_is)
    (case si_InUse_NoParents => k_is)
    (case si_NoEntry_NoParents => k_is)
    (case si_NoThing_NoParents => k_is)
    (case si_NoNumber_NoParents => k_is)
    (case si_NotAbove_NoParents => k_is)
    (case si_Shut_NoParents => k_is)
    (case si_NoText_NoParents => k_is)
    (case si_NoRow_NoParents => k_is)
    (case si_Ring_NoParents => k_is)
    (case si_Round_NoParents => k_is)
    (case si_Missing_NoParents => k_is)
    (case si_Endless_NoParents => k_is)
    (case sf_Taken => k_is)
    (case si_NoName_Taken => k_is)
    (case si_NoKind_Taken => k_is)
    (case si_NoParents_Taken => k_is)
    (case si_Taken_Taken => k_is)
    (case si_InUse_Taken => k_is)
    (case si_NoEntry_Taken => k_is)
    (case si_NoThing_Taken => k_is)
    (case si_NoNumber_Taken => k_is)
    (case si_NotAbove_Taken => k_is)
    (case si_Shut_Taken => k_is)
    (case si_NoText_Taken => k_is)
    (case si_NoRow_Taken => k_is)
    (case si_Ring_Taken => k_is)
    (case si_Round_Taken => k_is)
    (case si_Missing_Taken => k_is)
    (case si_Endless_Taken => k_is)
    (case sf_InUse => k_is)
    (case si_NoName_InUse => k_is)
    (case si_NoKind_InUse => k_is)
    (case si_NoParents_InUse => k_is)
    (case si_Taken_InUse => k_is)
    (case si_InUse_InUse => k_is)
    (case si_NoEntry_InUse => k_is)
    (case si_NoThing_InUse => k_is)
    (case si_NoNumber_InUse => k_is)
    (case si_NotAbove_InUse => k_is)
    (case si_Shut_InUse => k_is)
    (case si_NoText_InUse => k_is)
    (case si_NoRow_InUse => k_is)
    (case si_Ring_InUse => k_is)
    (case si_Round_InUse => k_is)
    (case si_Missing_InUse => k_is)
    (case si_Endless_InUse => k_is)
    (case sf_NoEntry => k_is)
    (case si_NoName_NoEntry => k_is)
    (case si_NoKind_NoEntry => k_is)
    (case si_NoParents_NoEntry => k_is)
    (case si_Taken_NoEntry => k_is)
    (case si_InUse_NoEntry => k_is)
    (case si_NoEntry_NoEntry => k_is)
    (case si_NoThing_NoEntry => k_is)
    (case si_NoNumber_NoEntry => k_is)
    (case si_NotAbove_NoEntry => k_is)
    (case si_Shut_NoEntry => k_is)
    (case si_NoText_NoEntry => k_is)
    (case si_NoRow_NoEntry => k_is)
    (case si_Ring_NoEntry => k_is)
    (case si_Round_NoEntry => k_is)
    (case si_Missing_NoEntry => k_is)
    (case si_Endless_NoEntry => k_is)
    (case sf_NoThing => k_is)
    (case si_NoName_NoThing => k_is)
    (case si_NoKind_NoThing => k_is)
    (case si_NoParents_NoThing => k_is)
    (case si_Taken_NoThing => k_is)
    (case si_InUse_NoThing => k_is)
    (case si_NoEntry_NoThing => k_is)
    (case si_NoThing_NoThing => k_is)
    (case si_NoNumber_NoThing => k_is)
    (case si_NotAbove_NoThing => k_is)
    (case si_Shut_NoThing => k_is)
    (case si_NoText_NoThing => k_is)
    (case si_NoRow_NoThing => k_is)
    (case si_Ring_NoThing => k_is)
    (case si_Round_NoThing => k_is)
    (case si_Missing_NoThing => k_is)
    (case si_Endless_NoThing => k_is)
    (case sf_NoNumber => k_is)
    (case si_NoName_NoNumber => k_is)
    (case si_NoKind_NoNumber => k_is)
    (case si_NoParents_NoNumber => k_is)
    (case si_Taken_NoNumber => k_is)
    (case si_InUse_NoNumber => k_is)
    (case si_NoEntry_NoNumber => k_is)
    (case si_NoThing_NoNumber => k_is)
    (case si_NoNumber_NoNumber => k_is)
    (case si_NotAbove_NoNumber => k_is)
    (case si_Shut_NoNumber => k_is)
    (case si_NoText_NoNumber => k_is)
    (case si_NoRow_NoNumber => k_is)
    (case si_Ring_NoNumber => k_is)
    (case si_Round_NoNumber => k_is)
    (case si_Missing_NoNumber => k_is)
    (case si_Endless_NoNumber => k_is)
    (case sf_NotAbove => k_is)
    (case si_NoName_NotAbove => k_is)
    (case si_NoKind_NotAbove => k_is)
    (case si_NoParents_NotAbove => k_is)
    (case si_Taken_NotAbove => k_is)
    (case si_InUse_NotAbove => k_is)
    (case si_NoEntry_NotAbove => k_is)
    (case si_NoThing_NotAbove => k_is)
    (case si_NoNumber_NotAbove => k_is)
    (case si_NotAbove_NotAbove => k_is)
    (case si_Shut_NotAbove => k_is)
    (case si_NoText_NotAbove => k_is)
    (case si_NoRow_NotAbove => k_is)
    (case si_Ring_NotAbove => k_is)
    (case si_Round_NotAbove => k_is)
    (case si_Missing_NotAbove => k_is)
    (case si_Endless_NotAbove => k_is)
    (case sf_Shut => k_is)
    (case si_NoName_Shut => k_is)
    (case si_NoKind_Shut => k_is)
    (case si_NoParents_Shut => k_is)
    (case si_Taken_Shut => k_is)
    (case si_InUse_Shut => k_is)
    (case si_NoEntry_Shut => k_is)
    (case si_NoThing_Shut => k_is)
    (case si_NoNumber_Shut => k_is)
    (case si_NotAbove_Shut => k_is)
    (case si_Shut_Shut => k_is)
    (case si_NoText_Shut => k_is)
    (case si_NoRow_Shut => k_is)
    (case si_Ring_Shut => k_is)
    (case si_Round_Shut => k_is)
    (case si_Missing_Shut => k_is)
    (case si_Endless_Shut => k_is)
    (case sf_NoText => k_is)
    (case si_NoName_NoText => k_is)
    (case si_NoKind_NoText => k_is)
    (case si_NoParents_NoText => k_is)
    (case si_Taken_NoText => k_is)
    (case si_InUse_NoText => k_is)
    (case si_NoEntry_NoText => k_is)
    (case si_NoThing_NoText => k_is)
    (case si_NoNumber_NoText => k_is)
    (case si_NotAbove_NoText => k_is)
    (case si_Shut_NoText => k_is)
    (case si_NoText_NoText => k_is)
    (case si_NoRow_NoText => k_is)
    (case si_Ring_NoText => k_is)
    (case si_Round_NoText => k_is)
    (case si_Missing_NoText => k_is)
    (case si_Endless_NoText => k_is)
    (case sf_NoRow => k_is)
    (case si_NoName_NoRow => k_is)
    (case si_NoKind_NoRow => k_is)
    (case si_NoParents_NoRow => k_is)
    (case si_Taken_NoRow => k_is)
    (case si_InUse_NoRow => k_is)
    (case si_NoEntry_NoRow => k_is)
    (case si_NoThing_NoRow => k_is)
    (case si_NoNumber_NoRow => k_is)
    (case si_NotAbove_NoRow => k_is)
    (case si_Shut_NoRow => k_is)
    (case si_NoText_NoRow => k_is)
    (case si_NoRow_NoRow => k_is)
    (case si_Ring_NoRow => k_is)
    (case si_Round_NoRow => k_is)
    (case si_Missing_NoRow => k_is)
    (case si_Endless_NoRow => k_is)
    (case sf_Ring => k_is)
    (case si_NoName_Ring => k_is)
    (case si_NoKind_Ring => k_is)
    (case si_NoParents_Ring => k_is)
    (case si_Taken_Ring => k_is)
    (case si_InUse_Ring => k_is)
    (case si_NoEntry_Ring => k_is)
    (case si_NoThing_Ring => k_is)
    (case si_NoNumber_Ring => k_is)
    (case si_NotAbove_Ring => k_is)
    (case si_Shut_Ring => k_is)
    (case si_NoText_Ring => k_is)
    (case si_NoRow_Ring => k_is)
    (case si_Ring_Ring => k_is)
    (case si_Round_Ring => k_is)
    (case si_Missing_Ring => k_is)
    (case si_Endless_Ring => k_is)
    (case sf_Round => k_is)
    (case si_NoName_Round => k_is)
    (case si_NoKind_Round => k_is)
    (case si_NoParents_Round => k_is)
    (case si_Taken_Round => k_is)
    (case si_InUse_Round => k_is)
    (case si_NoEntry_Round => k_is)
    (case si_NoThing_Round => k_is)
    (case si_NoNumber_Round => k_is)
    (case si_NotAbove_Round => k_is)
    (case si_Shut_Round => k_is)
    (case si_NoText_Round => k_is)
    (case si_NoRow_Round => k_is)
    (case si_Ring_Round => k_is)
    (case si_Round_Round => k_is)
    (case si_Missing_Round => k_is)
    (case si_Endless_Round => k_is)
    (case sf_Missing => k_is)
    (case si_NoName_Missing => k_is)
    (case si_NoKind_Missing => k_is)
    (case si_NoParents_Missing => k_is)
    (case si_Taken_Missing => k_is)
    (case si_InUse_Missing => k_is)
    (case si_NoEntry_Missing => k_is)
    (case si_NoThing_Missing => k_is)
    (case si_NoNumber_Missing => k_is)
    (case si_NotAbove_Missing => k_is)
    (case si_Shut_Missing => k_is)
    (case si_NoText_Missing => k_is)
    (case si_NoRow_Missing => k_is)
    (case si_Ring_Missing => k_is)
    (case si_Round_Missing => k_is)
    (case si_Missing_Missing => k_is)
    (case si_Endless_Missing => k_is)
    (case sf_Endless => k_is)
    (case si_NoName_Endless => k_is)
    (case si_NoKind_Endless => k_is)
    (case si_NoParents_Endless => k_is)
    (case si_Taken_Endless => k_is)
    (case si_InUse_Endless => k_is)
    (case si_NoEntry_Endless => k_is)
    (case si_NoThing_Endless => k_is)
    (case si_NoNumber_Endless => k_is)
    (case si_NotAbove_Endless => k_is)
    (case si_Shut_Endless => k_is)
    (case si_NoText_Endless => k_is)
    (case si_NoRow_Endless => k_is)
    (case si_Ring_Endless => k_is)
    (case si_Round_Endless => k_is)
    (case si_Missing_Endless => k_is)
    (case si_Endless_Endless => k_is)
    (case sf_LineError => k_is)
    (case si_NoName_LineError => k_is)
    (case si_NoKind_LineError => k_is)
    (case si_NoParents_LineError => k_is)
    (case si_Taken_LineError => k_is)
    (case si_InUse_LineError => k_is)
    (case si_NoEntry_LineError => k_is)
    (case si_NoThing_LineError => k_is)
    (case si_NoNumber_LineError => k_is)
    (case si_NotAbove_LineError => k_is)
    (case si_Shut_LineError => k_is)
    (case si_NoText_LineError => k_is)
    (case si_NoRow_LineError => k_is)
    (case si_Ring_LineError => k_is)
    (case si_Round_LineError => k_is)
    (case si_Missing_LineError => k_is)
    (case si_Endless_LineError => k_is)
    (case b_ValueError => k_is)
    (case a__law_pot => k_is)
    (case l__law_pot => k_is)
    (case c__law_pot => k_is)
    (case k__law_pot => k_is)
    (case a__law_digit => k_is)
    (case l__law_digit => k_is)
    (case c__law_digit => k_is)
    (case k__law_digit => k_is)
    (case a__law_names => k_is)
    (case l__law_names => k_is)
    (case c__law_names => k_is)
    (case k__law_names => k_is)
    (case a__law_kinds => k_is)
    (case l__law_kinds => k_is)
    (case c__law_kinds => k_is)
    (case k__law_kinds => k_is)
    (case a_law => k_is)
    (case l_law => k_is)
    (case c_law => k_is)
    (case k_law => k_is)
    (case b_len => k_is)
    (case b_abs => k_is)
    (case b_max => k_is)
    (case b_min => k_is)
    (case b_tuple => k_is)
    (case b_list => k_is)
    (case b_all => k_is)
    (case b_any => k_is)
    (case b_sorted => k_is)
    (case b_set => k_is)
    (case b_isinstance => k_is)
    (case b_range => k_is)
    (case b_enumerate => k_is)
    (case b_zip => k_is)
    (case b_int => k_is)
    (case b_str => k_is)
    (case b_bool => k_is)
    (case b_dict => k_is)
    (case b_repr => k_is)
    (case b_sum => k_is)
    (case b_type => k_is)
    (case b_reversed => k_is)
