import PyProof.Rows.All
import Wide.All
import OpenK.AllK
import Wide.FinOn
import HandS.ForExc
import HandS.ForMost
import KE.GoesRaise
import HandS.ExcCtx
import HandS.IsInst
import HandS.ExcIs
import HandS.Wide
import HandS.More
import HandS.HotCalls
import HandS.SuiteRaise
import HandS.Comp
import HandS.List
import PyProof.Seq
import PySem.Challenge.RW_facework_k57_rings_run
import HandS.Defaults
import HandS.CallSlots
import HandS.HeadHook4
import HandS.HeadNt
import KE.KStateDown
import Lean
import HandS.Ends
import HandS.Words
import HandS.WordsExc
import HandS.Head0
import HandS.Head1
import HandS.Head2
import HandS.HeadEnd
set_option Elab.async false
set_option linter.all false
set_option maxRecDepth 100000
set_option maxHeartbeats 4000000
/-! InfA: list comprehensions out of which an exception of a call flies. -/
namespace FW
open PySem PySem.Spec PyProof.Rows L2

/-- a comprehension's block whose element may let out what calls let out, by the wish E -/
abbrev blkX (X : Cx) (E : XK) (s : Shared) (H : Hp) (sc : Scope) (ce : Env) (fp : List Addr) : Cx :=
  (X.blk s H sc ce fp).wish fun e s' => ∃ pins σ H1 s1, Inv (X.blk s H sc ce fp) pins σ H1 s1 ∧ L2N.CX X.prog X.w X.stack H1 s1 E e s'

theorem passB {X : Cx} {E : XK} {s : Shared} {H : Hp} {sc : Scope} {ce : Env} {fp : List Addr} :
    Passes (L2N.CX X.prog X.w) (blkX X E s H sc ce fp) E :=
  fun pins σ H1 s1 _ _ I c => ⟨pins, σ, H1, s1, I.unwish, c⟩

section
variable {X : Cx} {pins : List (Addr × Obj)} {σ : L2.St} {H3 : Hp} {s3 : Shared} {scope : Scope} {ce : Env} {fp : List Addr} {E : XK}

theorem comp_fails (hs : X.stack = X.env :: X.outer) (hf : X.env.frame = some X.env.locals)
    (tk : L2N.Takes X (fun cls d _ H => E cls d H)) (I3 : Inv X pins σ H3 s3)
    (hC : ce.locals = s3.heap.objs.size) (hcf : ce.frame = X.env.frame)
    (f3 : ∀ b ∈ fp, FpOk X pins H3 b ∧ b < s3.heap.objs.size) {e : Value} {s' : Shared}
    (xb : ∃ pins σ H1 s1, Inv (X.blk s3 H3 scope ce fp) pins σ H1 s1 ∧ L2N.CX X.prog X.w X.stack H1 s1 E e s') :
    notedBy (model X.prog X.w) X.A ce (fun x s'' => CompFails (model X.prog X.w) X.A X.xe ce x s'') e s' := by
  obtain ⟨pb, σb, Hb, sb, Ib, a, B, H', cls, d, rfl, fl, hok, ub, na, os, ag, hE⟩ := xb
  have hfr : X.A.frames = some (X.env :: X.outer) := by
    rw [I3.ok.frames, hs]
  have fl' : HandSPX.FlyingZ B (X.env :: X.outer) a (L2N.Zn cls d) s'.heap := by
    rw [← hs]
    exact fl
  have UB := Ib.base
  have UB : Un (frs X.stack) fp H3 Hb s3.heap sb.heap := UB
  have hCfs : ce.locals ∉ frs X.stack := fun hm => by
    obtain ⟨_, o, ho, _⟩ := I3.stack.mem hm
    exact absurd (Heap.lt_size ho) (by rw [hC]; exact Nat.lt_irrefl _)
  obtain ⟨mC, ⟨oC, es, ep, hoC, hdC, rC⟩, _⟩ := Ib.loc
  have hoC : sb.heap.get? ce.locals = some oC := hoC
  have frC : Hb ce.locals = none := Ib.free
  have BC : B.get? ce.locals = some oC := ub.keep _ _ hoC frC hCfs
  have H'C : H' ce.locals = none := ub.free _ _ hoC frC
  show wpAny _ _ (noteFrame (.ref a) ce) _ _ _
  rw [noteFrame_env _ hcf]
  refine PXN.looks_onZ L2N.Zn.steady hfr hf fl' fun h1 hh up1 => ?_
  obtain ⟨st1, hna, ff1, tr1⟩ := hh
  refine ⟨mC, ⟨oC, es, ep, st1 _ _ BC, hdC, rC⟩, fun h2 m2 hn2 sb2 => ?_⟩
  -- the ground without the block's names
  have hB2 : ∀ b o, (PySem.W.hideAll B [ce.locals]).get? b = some o → B.get? b = some o := fun b o q => PySem.W.of_hideAll _ q
  have hB2C : (PySem.W.hideAll B [ce.locals]).get? ce.locals = none := PySem.W.hideAll_none _ (by simp)
  have toB2 : ∀ b o, b ≠ ce.locals → B.get? b = some o → (PySem.W.hideAll B [ce.locals]).get? b = some o := fun b o n q =>
    PySem.W.hideAll_get _ q (by simpa using n)
  have nB2 : ∀ b, B.get? b = none → (PySem.W.hideAll B [ce.locals]).get? b = none := fun b q => by
    cases z : (PySem.W.hideAll B [ce.locals]).get? b with
    | none => rfl
    | some o =>
      rw [hB2 b o z] at q
      cases q
  generalize PySem.W.hideAll B [ce.locals] = B2 at hB2 hB2C toB2 nB2
  have neC : ∀ b o, B2.get? b = some o → b ≠ ce.locals := fun b o q z => by
    rw [z, hB2C] at q
    cases q
  have st2 : B2.StaysIn h2 := fun b o q => (sb2.2 b (neC b o q)).trans (st1 b o (hB2 b o q))
  have frB : ∀ L ∈ frs (X.env :: X.outer), B2.get? L = none ∧ L ≠ ce.locals := fun L hL => by
    refine ⟨nB2 L (ff1.mem hL).1, fun z => ?_⟩
    have q := (ff1.mem hL).1
    rw [z, BC] at q
    cases q
  have ff2 : h2.FunFrames B2 (X.env :: X.outer) := by
    refine funFrames_none (base := B) ?_ fun L hL => (frB L hL).1
    have go : ∀ l : List Env, (∀ L ∈ frs l, L ≠ ce.locals) → h1.FunFrames B l → h2.FunFrames B l := by
      intro l
      induction l with
      | nil => exact fun _ _ => trivial
      | cons v r ih =>
        intro hl hx
        obtain ⟨k1, ⟨L, o, k2, k3, k4, k5⟩, k6⟩ := hx
        have mL : L ∈ frs (v :: r) := List.mem_filterMap.mpr ⟨v, List.mem_cons_self, k2⟩
        refine ⟨k1, ⟨L, o, k2, k3, (sb2.2 L (hl L mL)).trans k4, k5⟩, ih (fun b hb => hl b ?_) k6⟩
        obtain ⟨y, y1, y2⟩ := List.mem_filterMap.mp hb
        exact List.mem_filterMap.mpr ⟨y, List.mem_cons_of_mem _ y1, y2⟩
    exact go _ (fun L hL => (frB L hL).2) ff1
  have tr2 : HandSPX.TracedZ h2 B2 a (L2N.Zn cls d) (rawInt X.env.locals) := by
    obtain ⟨oe, vs, T, oT, ts, he, hz, hd, q1, hT, hTe, hoT, hdT, q3⟩ := tr1
    have naC : a ≠ ce.locals := fun z => by
      rw [z, BC] at hna
      cases hna
    have nTC : T ≠ ce.locals := fun z => by
      rw [z, BC] at hT
      cases hT
    exact ⟨oe, vs, T, oT, ts, (sb2.2 a naC).trans he, hz, hd, q1, nB2 T hT, hTe, (sb2.2 T nTC).trans hoT, hdT, q3⟩
  have held2 : HandSPX.HeldZ B2 (X.env :: X.outer) a (L2N.Zn cls d) X.env.locals h2 := ⟨st2, nB2 a hna, ff2, tr2⟩
  have ttr2 := tr2
  obtain ⟨oe, vs, T, oT, ts, he, hz, hd, q1, hT, hTe, hoT, hdT, q3⟩ := ttr2
  unfold PySem.passOn
  refine wpAny_bind (wpAny_field he hd q1 ?_)
  rw [if_neg (show ¬ ((Value.ref T == Value.none) = true) from by simp)]
  have fin : ∀ h3, HandSPX.HeldZ B2 (X.env :: X.outer) a (L2N.Zn cls d) X.env.locals h3 → h2.UpToSlots h3 → X.xe (.ref a) { s' with heap := h3 } := fun h3 hh3 up3 => by
    obtain ⟨G, g1, g2⟩ := restrict h3 fun b => (B2.get? b).isSome || decide (b ∈ frs X.stack)
    have st3 : B2.StaysIn h3 := hh3.1
    have gB : ∀ b o, B2.get? b = some o → G.get? b = some o := fun b o q => by
      rw [g1 b (by rw [q]; rfl)]
      exact st3 b o q
    have gF : ∀ b, b ∈ frs X.stack → G.get? b = h3.get? b := fun b hb => g1 b (by rw [decide_eq_true hb, Bool.or_true])
    have og : ∀ b o, G.get? b = some o → h3.get? b = some o ∧ ((B2.get? b).isSome = true ∨ b ∈ frs X.stack) := fun b o q => by
      cases z : ((B2.get? b).isSome || decide (b ∈ frs X.stack)) with
      | false =>
        rw [g2 b z] at q
        cases q
      | true =>
        rw [g1 b z] at q
        exact ⟨q, by simpa [Bool.or_eq_true] using z⟩
    have slots : ∀ b o, s3.heap.get? b = some o → b ∈ frs X.stack → b ∉ fp → ∃ sl, G.get? b = some { o with slots := sl } := fun b o q hb hx => by
      obtain ⟨_, o', e', hnf⟩ := I3.stack.mem hb
      rw [q] at e'
      cases e'
      obtain ⟨sl1, w1⟩ := UB.slot b o q (I3.stkFree b hb) hb hx
      obtain ⟨sl2, w2⟩ := ub.slot b _ w1 hb
      obtain ⟨sl3, w3⟩ := up1 b _ w2 hnf
      have w4 : h2.get? b = _ := (sb2.2 b (fun z => hCfs (z ▸ hb))).trans w3
      obtain ⟨sl5, w5⟩ := up3 b _ w4 hnf
      exact ⟨sl5, by rw [gF b hb]; exact w5⟩
    have I4 : Inv X pins σ H' { s3 with heap := G, gens := s'.gens, drawn := s'.drawn, toks := s'.toks } := by
      refine I3.call (ch := fp) ⟨fun b o q n hb hx => ?_, fun b o q n hb hx => slots b o q hb hx, fun b o q n hx => ?_, fun b o q hx => ?_, fun b xs q => ?_, fun b o u q => ?_, fun b ps q => ?_⟩ (fun b u q => ?_) ag
        (fun b hb => ⟨(f3 b hb).1.2.2.2.1, (f3 b hb).1.2.1, (f3 b hb).1.2.2.2.2.1, (f3 b hb).1.2.2.2.2.2⟩)
      · have w := ub.keep b o (UB.keep b o q n hb hx) (UB.free b o q n hx) hb
        exact gB b o (toB2 b o (fun z => absurd (Heap.lt_size q) (by rw [z, hC]; exact Nat.lt_irrefl _)) w)
      · obtain ⟨o', w⟩ := UB.there b o q hx
        exact ub.free b o' w (UB.free b o q n hx)
      · by_cases hb : b ∈ frs X.stack
        · obtain ⟨sl, w⟩ := slots b o q hb hx
          exact ⟨_, w⟩
        · obtain ⟨o', w⟩ := UB.there b o q hx
          obtain ⟨o2, w2⟩ := ub.there b o' w hb
          exact ⟨o2, gB b o2 (toB2 b o2 (fun z => absurd (Heap.lt_size q) (by rw [z, hC]; exact Nat.lt_irrefl _)) w2)⟩
      · exact ub.tups b xs (UB.tups b xs q)
      · exact ub.frzs b o u (UB.frzs b o u q)
      · obtain ⟨m1, w1⟩ := UB.tbls b ps q
        obtain ⟨m2, w2⟩ := ub.tbls b _ w1
        exact ⟨m1 ++ m2, by rw [w2, Array.append_assoc]⟩
      · refine (hok b u q).stay (fun c v hc r => gB c v (toB2 c v (fun z => ?_) r)) (fun _ r => r) fun _ _ r => r
        rcases hc with hc | hc
        · rw [← hc, z, H'C] at q
          cases q
        · rw [z, H'C] at hc
          cases hc
    refine tk _ _ ⟨a, B2, _, pins, σ, H', cls, d, rfl, I4, fun b o q hb => ?_, Heap.UpToSlots.of_keeps fun b o q => (og b o q).1, .inr (.inr ?_), na, ?_, ag, hE⟩
    · obtain ⟨w, k⟩ := og b o q
      rcases k with k | k
      · obtain ⟨o', r⟩ := Option.isSome_iff_exists.mp k
        have w' := st3 b o' r
        rw [w] at w'
        cases w'
        exact r
      · exact absurd k hb
    · rw [hs]
      exact hh3
    · show s'.os = s3.os
      rw [os]
      exact Ib.os
  have done : wpAny (model X.prog X.w) X.A (setFlight (.ref a) ce.frame) (fun _ s4 => wpAny (model X.prog X.w) X.A (throw (.ref a) : Sem Value) (fun _ _ => False) X.xe s4) X.xe { s' with heap := h2 } := by
    rw [hcf, hf]
    exact HandSPX.setFlight_onZ held2 fun h3 hh3 up3 => wpAny_throw (fin h3 hh3 up3)
  first
    | exact wpAny_bind done
    | exact wpAny_bind (wpAny_pure (wpAny_bind done))
end
end FW

set_option Elab.async false
set_option linter.all false
set_option maxRecDepth 100000
set_option maxHeartbeats 4000000
namespace FW
open PySem PySem.Spec PyProof.Rows L2

section
variable {X : Cx} {E : XK}
theorem lc_coreX {pins : List (Addr × Obj)} {s : Shared} {σ : L2.St} {H : Hp} {Q : VK} {elt tg iter : Expr} {ifs : List Expr} {scope : Scope} {own : List (Str × Nat)} {pos pos' : Pos}
    {wi : TI} {g : TG} {tt : TT} {te : TE} {use : Option (Value → Sem Unit)} {Qf : Value → Shared → Prop}
    (hst : X.stack = X.env :: X.outer) (hfm : X.env.frame = some X.env.locals) (tk : L2N.Takes X (fun cls d _ H => E cls d H))
    (hc : X.calm = true) (hN : X.N.Nodup) (I : Inv X pins σ H s) (hi : PI X tg iter wi) (ok : BlkOk X.N X.env.scope scope own)
    (hg : ∀ (s : Shared) (H : Hp) (C : Addr) (cl : List (Str × Addr)) (fp : List Addr), PG (blkX X E s H scope (compEnvC scope cl C X.env) fp) tg g)
    (ht : ∀ (s : Shared) (H : Hp) (C : Addr) (cl : List (Str × Addr)) (fp : List Addr), PTs (blkX X E s H scope (compEnvC scope cl C X.env) fp) ifs tt)
    (he : ∀ (s : Shared) (H : Hp) (C : Addr) (cl : List (Str × Addr)) (fp : List Addr), PE (blkX X E s H scope (compEnvC scope cl C X.env) fp) elt te)
    (hs : ∀ x, foldedSetIterable iter X.env x = pure x) (h : tLc wi g tt te (own.map (·.2)) σ H Q)
    (hRR : ∀ D C s' m H', Inv X pins σ H' s' → Q (.ref D) H' → s'.heap.Ns C m → FpOk X pins H' C →
      ∀ cenv : Env, cenv.locals = C → compEnds (model X.prog X.w) X.A X.xe use Qf (.ref D) cenv (.ok .next) s') :
    wpAny (model X.prog X.w) X.A (comprehension (.ListComp elt [⟨tg, iter, ifs, 0⟩] scope pos) scope X.env pos' (newList []) false (eval iter X.env) use) Qf X.xe s := by
  have free : ∀ y ∈ scope.names, y.2 = .free → ∃ c, X.env.cells.lookup y.1 = some c := fun y hy z =>
    I.ok.has _ (ok.free y hy z)
  refine comprehension_at (use := use) rfl hs (closure_ok free) ok.kind (fun y hy z => by
    rw [ok.uniq y hy, z]) ?_
  refine thn (hi.run pins s σ H _ I h) fun xv s1 hx => thn hx fun itv s2 h2 => ?_
  obtain ⟨it, fp, tn, J, H2, rfl, I2, T, st2, f2, q⟩ := h2
  refine wpAny_newObj_type (newEnv_comp ?_) (by show 0 ≤ sizeLine; decide)
  obtain ⟨D, hD⟩ : ∃ D, s2.heap.objs.size = D := ⟨_, rfl⟩
  have freshD : H2 D = none := I2.hok.fresh (Nat.le_of_eq hD)
  rw [hD]
  obtain ⟨W, ⟨m0, w0⟩, turn⟩ := q D freshD
  obtain ⟨s3, hs3⟩ : ∃ s3 : Shared, ({ s2 with heap := s2.heap.push { cls := .type "list", data := .seq ([] : List Value).toArray } } : Shared) = s3 := ⟨_, rfl⟩
  have I3 : Inv X pins σ (upd H2 D (.lst [])) s3 := by
    subst hs3
    refine I2.laid (t' := s2.toks) (fun b o z => Heap.get?_push_of_some _ z) (Nat.le_of_eq hD) ⟨Nat.zero_le _, [], 0, .nil, ?_⟩
    rw [← hD]
    exact Heap.get?_push_size _ rfl
  have hp3 : s3.heap = s2.heap.push { cls := .type "list", data := .seq ([] : List Value).toArray } := by
    rw [← hs3]
  have f3 : ∀ b ∈ fp, FpOk X pins (upd H2 D (.lst [])) b ∧ b < s3.heap.objs.size := fun b hb => by
    obtain ⟨o, ho, _⟩ := T.obj _ _ st2 b hb
    have lt := Heap.lt_size ho
    have fb := f2 b hb
    refine ⟨⟨?_, fb.2⟩, by
      rw [hp3, Heap.size_push]
      exact Nat.lt_succ_of_lt lt⟩
    rw [upd_ne (fun z => by
      rw [z, ← hD] at lt
      exact Nat.lt_irrefl _ lt)]
    exact fb.1
  have st3 : tn 0 s3.heap := T.keep _ _ _ st2 fun b _ o z => by
    rw [hp3]
    exact Heap.get?_push_of_some _ z
  have I4 := block_start I3 ok hN f3
  have pg := hg s3 (upd H2 D (.lst [])) s3.heap.objs.size (cellsFrom (s3.heap.objs.size + 1) scope.names (cloFrom X.env.cells scope.names [])) fp
  have pt := ht s3 (upd H2 D (.lst [])) s3.heap.objs.size (cellsFrom (s3.heap.objs.size + 1) scope.names (cloFrom X.env.cells scope.names [])) fp
  have pe := he s3 (upd H2 D (.lst [])) s3.heap.objs.size (cellsFrom (s3.heap.objs.size + 1) scope.names (cloFrom X.env.cells scope.names [])) fp
  rw [hs3]
  show codeAny _ _ (.compStart (.ListComp elt [⟨tg, iter, ifs, 0⟩] scope pos) 0 (.ref it) (.ref D) (compEnvC scope (cellsFrom (s3.heap.objs.size + 1) scope.names (cloFrom X.env.cells scope.names [])) s3.heap.objs.size X.env))
    (compEnds (model X.prog X.w) X.A X.xe use Qf (.ref D) (compEnvC scope (cellsFrom (s3.heap.objs.size + 1) scope.names (cloFrom X.env.cells scope.names [])) s3.heap.objs.size X.env)) { s3 with heap := pushCells (s3.heap.push { cls := .type "dict", data := .dict #[] }) scope.names }
  have nfp : ∀ b ∈ fp, (upd H2 D (.lst [])) b = none := fun b hb => (f3 b hb).1.1
  have cfr : (compEnvC scope (cellsFrom (s3.heap.objs.size + 1) scope.names (cloFrom X.env.cells scope.names [])) s3.heap.objs.size X.env).frame = X.env.frame := rfl
  have cL : (compEnvC scope (cellsFrom (s3.heap.objs.size + 1) scope.names (cloFrom X.env.cells scope.names [])) s3.heap.objs.size X.env).locals = s3.heap.objs.size := rfl
  generalize compEnvC scope (cellsFrom (s3.heap.objs.size + 1) scope.names (cloFrom X.env.cells scope.names [])) s3.heap.objs.size X.env = ce at I4 pg pt pe cfr cL ⊢
  generalize upd H2 D (.lst []) = H3 at I3 I4 pg pt pe w0 nfp f3
  obtain ⟨s4, hs4⟩ : ∃ s4 : Shared, ({ s3 with heap := pushCells (s3.heap.push { cls := .type "dict", data := .dict #[] }) scope.names } : Shared) = s4 := ⟨_, rfl⟩
  rw [hs4] at I4 ⊢
  have st4 : tn 0 s4.heap := T.keep _ _ _ st3 fun b _ o z => by
    rw [← hs4]
    exact pushCells_keeps _ _ _ _ (Heap.get?_push_of_some _ z)
  have IB4 : Inv (blkX X E s3 H3 scope ce fp) [] (wipe σ (own.map (·.2))) H3 s4 := I4.wish _
  have stat : ∀ {σ' : L2.St} {H' : Hp} {s' : Shared}, Inv (blkX X E s3 H3 scope ce fp) [] σ' H' s' → (∀ b ∈ fp, H' b = none) → ∀ b ∈ fp, FpOk (blkX X E s3 H3 scope ce fp) [] H' b :=
    fun {σ' H' s'} I' hn b hb => ⟨hn b hb, (I'.ok.exf b hb).1, I'.ok.exfs b hb, .inl hb, fun x c z => (I'.ok.exf b hb).2 x c z, fun p hp => absurd (show p ∈ ([] : List (Addr × Obj)) ++ [] from hp) (by simp)⟩
  have bad : ∀ (x : Value) (s' : Shared), (blkX X E s3 H3 scope ce fp).xe x s' →
      notedBy (model X.prog X.w) X.A ce (fun e s'' => compEnds (model X.prog X.w) X.A X.xe use Qf (.ref D) ce (.error e) s'') x s' := fun x s' z => by
    refine wpAny_mono (comp_fails hst hfm tk I3 cL cfr f3 z) (fun _ s'' k => ?_) fun _ _ k => ?_
    · cases use <;> exact k
    · cases use <;> exact k
  have loop : codeAny (model X.prog X.w) X.A (.compLoop (.ListComp elt [⟨tg, iter, ifs, 0⟩] scope pos) 0 (.ref it) (.ref D) ce) (compEnds (model X.prog X.w) X.A X.xe use Qf (.ref D) ce) s4 := by
    refine compLoop_any (fun n s' => ∃ i H', Inv (blkX X E s3 H3 scope ce fp) [] (wipe σ (own.map (·.2))) H' s' ∧ tn i s'.heap ∧ (∀ b ∈ fp, H' b = none) ∧ W i n H') ?_ m0 ⟨0, H3, IB4, st4, nfp, w0⟩
    rintro n s5 ⟨i, H5, I5, st5, n5, w5⟩
    rcases turn i n H5 w5 with ⟨stop, qq⟩ | ⟨go, Nx, hNx, step⟩
    · refine thnF (T.done (blkX X E s3 H3 scope ce fp) rfl rfl rfl hc i [] s5 _ H5 (fun _ _ => False) I5 (stat I5 n5) st5 stop) fun r s6 ⟨hr, I6⟩ => ?_
      subst hr
      have I7 : Inv X pins σ H5 s6 := I3.call' (ch := fp) I6.os I6.base I6.hok I6.bare fun b hb => ⟨(f3 b hb).1.2.2.2.1, (f3 b hb).1.2.1, (f3 b hb).1.2.2.2.2.1, (f3 b hb).1.2.2.2.2.2⟩
      have nC : H5 s3.heap.objs.size = none := by
        have z : H5 ce.locals = none := I6.free
        rwa [cL] at z
      obtain ⟨m, hn, _⟩ := I6.loc
      have hn : s6.heap.Ns ce.locals m := hn
      rw [cL] at hn
      exact hRR D s3.heap.objs.size s6 m H5 I7 qq hn (I3.fpOk (Nat.le_refl _) nC) ce cL
    · refine thnF (T.item (blkX X E s3 H3 scope ce fp) rfl rfl rfl hc i [] s5 _ H5 (fun _ _ => False) I5 (stat I5 n5) st5 go) fun r s6 ⟨u, hr, h6⟩ => ?_
      subst hr
      refine thnF h6 fun _ s7 ⟨x, H7, I7, r7, y7, st7, n7⟩ => ?_
      have I7p := I7.pinned (stat I7 n7) (T.obj _ _ st7)
      refine wpAny_mono (pg.run _ s7 _ H7 x u _ I7p r7 (step x H7 y7)) (fun _ s8 ⟨σ8, H8, I8, hw8, q8⟩ => ?_) bad
      refine wpAny_mono (pt.run _ s8 σ8 H8 _ I8 q8) (fun b s9 ⟨H9, I9, q9⟩ => ?_) bad
      have fin : ∀ {s' : Shared} {H' : Hp}, Inv (blkX X E s3 H3 scope ce fp) ([] ++ pinsAt fp s7.heap) σ8 H' s' → Nx H' →
          ∃ m, m < n ∧ ∃ i H', Inv (blkX X E s3 H3 scope ce fp) [] (wipe σ (own.map (·.2))) H' s' ∧ tn i s'.heap ∧ (∀ b ∈ fp, H' b = none) ∧ W i m H' := fun {s' H'} I' nx => by
        obtain ⟨m', lt, w'⟩ := hNx H' nx
        have pin' : ∀ b ∈ fp, ∀ o, s7.heap.get? b = some o → s'.heap.get? b = some o ∧ H' b = none := fun b hb o z =>
          have k := I'.pin (b, o) (List.mem_append_right _ (List.mem_append_right _ (mem_pinsAt hb z)))
          ⟨k.1, k.2.1⟩
        have len8 : (wipe σ (own.map (·.2))).length = σ8.length := by
          rw [← hw8, wipe_length]
        refine ⟨m', lt, i + 1, H', (I'.unpinned (pins := [])).weak len8 (fun j v z => ?_), T.keep _ _ _ st7 fun b hb o z => (pin' b hb o z).1, fun b hb => ?_, w'⟩
        · rw [← hw8] at z
          exact (wipe_some z).1
        · obtain ⟨o, z, _⟩ := T.obj _ _ st7 b hb
          exact (pin' b hb o z).2
      cases b with
      | false =>
        rw [if_neg Bool.false_ne_true] at q9 ⊢
        exact fin I9 q9
      | true =>
        rw [if_pos rfl] at q9 ⊢
        refine wpAny_mono (pe.run _ s9 σ8 H9 _ I9 q9) (fun z s10 ⟨yv, H10, I10, r10, acc, hD10, hz10, nx⟩ => ?_) bad
        exact app_ok (X := blkX X E s3 H3 scope ce fp) I10 hD10 hz10 r10 fun s11 I11 => fin I11 nx
  exact codeAny_compStart_list loop (T.self X.A 0 _ _ _ st4 loop)

/-- [elt for tg in iter if ..], elt may let out what calls let out -/
theorem pe_lcX {elt tg iter : Expr} {ifs : List Expr} {scope : Scope} {own : List (Str × Nat)} {pos : Pos} {wi : TI} {g : TG} {tt : TT} {te : TE}
    (hst : X.stack = X.env :: X.outer) (hfm : X.env.frame = some X.env.locals) (tk : L2N.Takes X (fun cls d _ H => E cls d H))
    (hc : X.calm = true) (hN : X.N.Nodup) (hi : PI X tg iter wi) (ok : BlkOk X.N X.env.scope scope own)
    (hg : ∀ (s : Shared) (H : Hp) (C : Addr) (cl : List (Str × Addr)) (fp : List Addr), PG (blkX X E s H scope (compEnvC scope cl C X.env) fp) tg g)
    (ht : ∀ (s : Shared) (H : Hp) (C : Addr) (cl : List (Str × Addr)) (fp : List Addr), PTs (blkX X E s H scope (compEnvC scope cl C X.env) fp) ifs tt)
    (he : ∀ (s : Shared) (H : Hp) (C : Addr) (cl : List (Str × Addr)) (fp : List Addr), PE (blkX X E s H scope (compEnvC scope cl C X.env) fp) elt te)
    (hs : ∀ x, foldedSetIterable iter X.env x = pure x := by intro _; rfl) :
    PE X (.ListComp elt [⟨tg, iter, ifs, 0⟩] scope pos) (tLc wi g tt te (own.map (·.2))) := by
  refine ⟨fun pins s σ H Q I h => ?_⟩
  rw [eval_ListComp]
  refine lc_coreX hst hfm tk hc hN I hi ok hg ht he hs h fun D C s' m H' I' q hn f cenv hL => ?_
  subst hL
  refine ⟨m, hn, fun h'' sb => ?_⟩
  obtain ⟨f0, f1, f2, f3, f4, f5⟩ := f
  exact ⟨.ref D, H', I'.turned (t' := s'.toks) (fun b o hb z => (sb.2 b hb).trans z) f0 f1 f3 f4 f5, rfl, q⟩

/-- y = [..] on one line -/
theorem ps_setLcX {i : Nat} {y : Str} {py : Pos} {elt tg iter : Expr} {ifs : List Expr} {scope : Scope} {own : List (Str × Nat)} {pos spos : Pos} {wi : TI} {g : TG} {tt : TT} {te : TE}
    (hst : X.stack = X.env :: X.outer) (hfm : X.env.frame = some X.env.locals) (tk : L2N.Takes X (fun cls d _ H => E cls d H))
    (hc : X.calm = true) (hN : X.N.Nodup) (hy : X.N[i]? = some y) (hyl : X.env.scope.names.lookup y = some .local)
    (hsw : swapsWith (.ListComp elt [⟨tg, iter, ifs, 0⟩] scope pos) (some (.Name y py)) spos.line X.env = pure true) (hi : PI X tg iter wi) (ok : BlkOk X.N X.env.scope scope own)
    (hg : ∀ (s : Shared) (H : Hp) (C : Addr) (cl : List (Str × Addr)) (fp : List Addr), PG (blkX X E s H scope (compEnvC scope cl C X.env) fp) tg g)
    (ht : ∀ (s : Shared) (H : Hp) (C : Addr) (cl : List (Str × Addr)) (fp : List Addr), PTs (blkX X E s H scope (compEnvC scope cl C X.env) fp) ifs tt)
    (he : ∀ (s : Shared) (H : Hp) (C : Addr) (cl : List (Str × Addr)) (fp : List Addr), PE (blkX X E s H scope (compEnvC scope cl C X.env) fp) elt te)
    (hs : ∀ x, foldedSetIterable iter X.env x = pure x := by intro _; rfl) :
    PS X (.Assign [.Name y py] (.ListComp elt [⟨tg, iter, ifs, 0⟩] scope pos) spos) (tAsg (tLc wi g tt te (own.map (·.2))) (gName i)) := by
  refine ⟨fun pins s σ H D I h => ?_⟩
  rw [exec_Assign_Name_used _ _ _ _ hsw]
  refine wpAny_bind (wpAny_standAt (wpAny_bind ?_))
  show wpAny _ X.A (do let _ ← comprehension (.ListComp elt [⟨tg, iter, ifs, 0⟩] scope pos) scope X.env (firstIterPos [⟨tg, iter, ifs, 0⟩] pos) (newList []) false (eval iter X.env) (some (assign (.Name y py) X.env))) _ _ s
  have h : tLc wi g tt te (own.map (·.2)) σ H (fun x H1 => gName i x σ H1 D.nx) := h
  refine wpAny_bind (thn (lc_coreX (Qf := fun _ s' => SP X pins D .next s') hst hfm tk hc hN I hi ok hg ht he hs h fun L C s' m H' I' q hn f cenv hL => ?_) fun _ s' hq => wpAny_pure (wpAny_pure hq))
  subst hL
  show wpAny _ _ (assign (.Name y py) X.env (.ref L)) _ _ _
  refine wpAny_assign_Name (store_ok2 (v := V.ref L) I' hN hy (.inl hyl) rfl (fun s2 I2 ⟨a, sb, ha⟩ => ?_) (.inr hyl))
  obtain ⟨f0, f1, f2, f3, f4, f5⟩ := f
  have ne : cenv.locals ≠ a := by
    rcases ha with z | z
    · rw [z]
      exact f1
    · exact fun k => f4 y a z k.symm
  refine ⟨m, hn.sameBut sb ne, fun h3 sb3 => ?_⟩
  exact ⟨_, H', I2.turned (t' := s2.toks) (fun b o hb z => (sb3.2 b hb).trans z) f0 f1 f3 f4 f5, q⟩
end
end FW

set_option Elab.async false
set_option linter.all false
set_option maxRecDepth 100000
set_option maxHeartbeats 4000000
/-! InfC: defs that call each other some hundred deep: one frame a level. -/
namespace FW
open PySem PySem.Spec PyProof.Rows L2

/-- room for n frames more -/
structure RoomN (n : Nat) (A : Around) : Prop where
  hd : A.handled = none
  dp : A.depth + n + 20 < recursionLimit
  un : A.units + 4 * n + 300 < cLine
theorem RoomN.mono {m n : Nat} {A : Around} (r : RoomN n A) (h : m ≤ n) : RoomN m A := by
  obtain ⟨a, b, c⟩ := r
  exact ⟨a, by omega, by omega⟩
theorem RoomN.deeper {n : Nat} {A : Around} (r : RoomN (n + 1) A) (env : Env) : RoomN n (A.deeper env) := by
  obtain ⟨a, b, c⟩ := r
  exact ⟨a, by
    show A.depth + 1 + n + 20 < _
    omega, by
    show A.units + 3 + 4 * n + 300 < _
    omega⟩
theorem RoomN.room {n : Nat} {A : Around} (r : RoomN n A) : Room 5 A := by
  obtain ⟨a, b, c⟩ := r
  exact ⟨a, by omega, by omega⟩
theorem RoomN.of {k n : Nat} {A : Around} (r : Room k A) (h1 : n + 15 ≤ 3 * k) (h2 : 4 * n + 100 ≤ 16 * k) : RoomN n A := by
  obtain ⟨a, b, c⟩ := r
  exact ⟨a, by omega, by omega⟩
theorem RoomN.hu {n : Nat} {A : Around} (r : RoomN n A) : A.units + 1 < cLine := by
  have := r.un
  omega

structure FnN (P : Program) (w : World) (K : PySem.W.Frag) (mg : Str → Option Value) (base : Heap) (CX : CXT) (n : Nat) (f : Addr) (fd : FuncData) (ps : List Str) (sp : Sp) : Prop where
  len : ∀ vs H Q E, sp vs H Q E → vs.length = ps.length
  run : ∀ (A : Around) (outer : List Env) (s : Shared) (H : Hp) (args : Args) (us : List Value) (vs : List V) (Q : VK) (E : XK),
    RoomN n A → Env0 P w K mg base A outer s H → BindsTo s fd args (ps.zip us) → Vals vs us → sp vs H Q E →
      codeAny (model P w) A (.call (.ref f) args) (CR CX outer P w H s Q E) s

section
variable {P : Program} {w : World} {K : PySem.W.Frag} {mg : Str → Option Value} {base : Heap} {CX : CXT} {k m n : Nat} {f : Addr} {fd : FuncData} {ps : List Str} {sp sp' : Sp}
theorem FnN.mono (F : FnN P w K mg base CX m f fd ps sp) (h : m ≤ n) : FnN P w K mg base CX n f fd ps sp :=
  ⟨F.len, fun A o s H a us vs Q E r => F.run A o s H a us vs Q E (r.mono h)⟩
theorem FnN.imp (F : FnN P w K mg base CX n f fd ps sp) (h : ∀ vs H Q E, sp' vs H Q E → sp vs H Q E) : FnN P w K mg base CX n f fd ps sp' :=
  ⟨fun vs H Q E q => F.len vs H Q E (h _ _ _ _ q), fun A o s H a us vs Q E r e b v q => F.run A o s H a us vs Q E r e b v (h _ _ _ _ q)⟩
/-- a promise that nothing can ask for -/
theorem FnN.never (h : ∀ vs H Q E, ¬ sp vs H Q E) : FnN P w K mg base CX n f fd ps sp :=
  ⟨fun vs H Q E q => absurd q (h vs H Q E), fun A o s H a us vs Q E _ _ _ _ q => absurd q (h vs H Q E)⟩
theorem FnN.of (F : FnOk P w K mg base CX k f fd ps sp) (h : k ≤ 5) : FnN P w K mg base CX n f fd ps sp :=
  ⟨F.len, fun A o s H a us vs Q E r => F.run A o s H a us vs Q E (r.room.mono h)⟩
theorem FnN.to (F : FnN P w K mg base CX n f fd ps sp) (h1 : n + 15 ≤ 3 * k) (h2 : 4 * n + 100 ≤ 16 * k) : FnOk P w K mg base CX k f fd ps sp :=
  ⟨F.len, fun A o s H a us vs Q E r => F.run A o s H a us vs Q E (RoomN.of r h1 h2)⟩
end

section
variable {X : Cx} {CX : CXT} {n : Nat} {f C : Addr} {fd : FuncData} {ps : List Str} {sp : Sp} {dvs : List V} {ds : List Value} {E : XK} {x m : Str} {p pos apos : Pos} {e o : Expr} {es : List Expr} {ta : TE} {t : TA}
theorem run_fnN {pins : List (Addr × Obj)} {σ : L2.St} {H : Hp} {s : Shared} {Q : VK} {us : List Value} {vs : List V}
    (F : FnN X.prog X.w X.K X.mg X.base CX n f fd ps sp) (hr : RoomN n X.A) (hb : Binds X.K fd ps ds) (hd : Vals dvs ds) (hx : Passes CX X E)
    (I : Inv X pins σ H s) (r : Vals vs us) (h : sp (vs ++ dvs) H Q E) : wpAny (model X.prog X.w) X.A (call (.ref f) us) (EP X pins σ Q) X.xe s := by
  have q : Vals (vs ++ dvs) (us ++ ds) := r.append hd
  have l : (us ++ ds).length = ps.length := by
    rw [← q.length]
    exact F.len _ _ _ _ h
  refine wpAny_call (codeAny_mono (F.run X.A X.stack s H ⟨us, []⟩ (us ++ ds) (vs ++ dvs) Q E hr I.env0 (hb s us I.kIn l) q h) fun r s' z => ?_)
  rcases r with ⟨z1⟩ | ⟨z1⟩
  all_goals first
    | exact hx pins σ H s _ s' I z
    | (cases z1 <;> first | exact I.after z | exact z.elim)
theorem pe_callN (F : FnN X.prog X.w X.K X.mg X.base CX n f fd ps sp) (hr : RoomN n X.A) (hg : Gl X x) (hm : X.mg x = some (.ref f)) (hk : PySem.W.keepIn X.K (.ref f) = true)
    (hb : Binds X.K fd ps ds) (hd : Vals dvs ds) (hx : Passes CX X E) (ha : PA X (e :: es) t) (hdb : (x == ("__debug__" : Str)) = false := by decide)
    (he : starEach (e :: es) X.env = (false, eval e X.env) :: starEach es X.env := by rfl) (hpl : (backTo pos (starEach es X.env)).any (·.1) = false := by rfl) :
    PE X (.Call (.Name x p) (e :: es) [] pos) (tCall sp dvs E t) :=
  ⟨fun pins s σ H Q I h => wpAny_Call_Name_kw (ld_glob I hg hm (PySem.W.callWith_K (h₀ := X.base) I.ok.mod.kin hk (thn (ha.run pos pins s σ H _ I h) fun us s1 ⟨vs, H1, I1, r, q⟩ =>
    ⟨I1.kIn, run_fnN F hr hb hd hx I1 r q⟩) he hpl) hdb)⟩
theorem pe_methN {pl : Sem Bool} (he : PE X o ta) (c : Cls X.K C) (hm : Meth X.K C m f) (F : FnN X.prog X.w X.K X.mg X.base CX n f fd ps sp) (hr : RoomN n X.A)
    (hb : Binds X.K fd ps ds) (hd : Vals dvs ds) (hx : Passes CX X E) (ha : PA X (e :: es) t)
    (hst : starEach (e :: es) X.env = (false, eval e X.env) :: starEach es X.env := by rfl) (hpl : (backTo pos (starEach es X.env)).any (·.1) = false := by rfl)
    (ht : eval (.Call (.Attribute o m apos) (e :: es) [] pos) X.env = (do
      let ov ← eval o X.env
      standAt apos.atName
      let (f, first) ← holding [ov] (getMethod ov m pl)
      callWith pos f first (backTo pos (starEach (e :: es) X.env)) (backToKw pos (keywordEach [] X.env))) := by rfl) :
    PE X (.Call (.Attribute o m apos) (e :: es) [] pos) (tMeth C m sp dvs E ta t) := by
  refine ⟨fun pins s σ H Q I h => PySem.W.methodCall_KW (pl := pl) (thn (he.run pins s σ H _ I h) fun u s1 ⟨x, H1, I1, rx, a, dx, fs, ex, ea, l, q⟩ => ?_) ht⟩
  subst ex
  have eu : u = Value.ref a := rx
  subst eu
  refine getmeth_ok I1 ea c hm l (PySem.W.callWith_K (first := [.ref a]) (h₀ := X.base) I.ok.mod.kin hm.kp (thn (ha.run pos pins s1 σ H1 _ I1 q) fun us s2 ⟨vs, H2, I2, r, q2⟩ => ⟨I2.kIn, ?_⟩) hst hpl)
  exact run_fnN (us := .ref a :: us) (vs := .ref a :: vs) F hr hb hd hx I2 (.cons rfl r) q2
end

/-- a def by its body -/
theorem fnN_of {CX : CXT} {P : Program} {w : World} {K : PySem.W.Frag} {mg : Str → Option Value} {base : Heap} {n : Nat} {f : Addr} {name qual : Str} {params : Arguments} {body : List Stmt} {scope : Scope}
    {dV kV doc pm cdv ct oc : Value} {an od : Option Addr} {osl : Array (Option Value)} {N ps : List Str} {sp : Sp}
    (lk : K.lookup f = some ⟨oc, od, .func (PySem.W.fnOf name qual params body scope dV kV doc pm an cdv ct), osl⟩) (hcd : PySem.W.codeIn K cdv qual = true) (S : FnScope N ps scope)
    (len : ∀ vs H Q E, sp vs H Q E → vs.length = ps.length)
    (hbody : ∀ (A : Around) (outer : List Env) (s : Shared) (H : Hp) (vs : List V) (Q : VK) (E : XK), RoomN n (A.deeper (envOfC qual scope s.heap.objs.size f cdv)) → sp vs H Q E →
      ∃ t, PSs (cxOf CX P w K mg base N qual scope f cdv A outer s H E) body t ∧ t { nx := fun _ H' => Q .non H', rt := Q } (start N vs) H) :
    FnN P w K mg base CX (n + 1) f (PySem.W.fnOf name qual params body scope dV kV doc pm an cdv ct) ps sp := by
  refine ⟨len, fun A outer s H args us vs Q E hr e0 hb r hsp => ?_⟩
  have hl := len _ _ _ _ hsp
  have KX : K.In s.heap := e0.mod.kin.keeps fun b o z => (e0.bs b o z).1
  have lim : s.heap.NoLimit := e0.mod.nolimit.keeps fun b o z => (e0.bs b o z).1
  have dep : A.depth < recursionLimit := by
    have := hr.dp
    omega
  have kinds : ∀ y ∈ ps.zip us, scope.names.lookup y.1 = some .local ∨ (scope.names.lookup y.1 = some .cell ∧ ((cellsFrom (s.heap.objs.size + 1) scope.names []).lookup y.1).isSome = true) := fun y hy => by
    obtain ⟨a, v⟩ := y
    rcases S.par a (List.of_mem_zip hy).1 with q | q
    · exact .inl q
    · exact .inr ⟨q, PySem.W.cellsFrom_some _ _ _ (.inl q)⟩
  refine codeAny_call_function dep (KX _ _ lk) rfl S.co S.gen rfl (PySem.W.codeRec_of KX hcd) (hb _ _ _ _ ?_)
  refine wpAny_newFunctionEnv_cells S.kind kinds fun env he s1 x => ?_
  subst he
  refine ⟨lim.keeps x.toInCall.keep, codeAny_func ?_⟩
  obtain ⟨t, ht, hq⟩ := hbody A outer s H vs Q E (hr.deeper _) hsp
  have I : Inv (cxOf CX P w K mg base N qual scope f cdv A outer s H E) [] (start N vs) H s1 := inv_start S hr.hd e0 hl r x
  refine wpAny_mono (ht.run [] s1 (start N vs) H _ I hq) (fun fl s' hs => ?_) fun _ _ z => z
  have fin : ∀ {σ' : L2.St} {H' : Hp} {v : V} {u : Value}, Inv (cxOf CX P w K mg base N qual scope f cdv A outer s H E) [] σ' H' s' → RelV v u → Q v H' → CE outer P w H s Q u s' :=
    fun {σ' H' v u} J rv q => ⟨v, H', J.os, J.bare, J.base, J.hok, rv, q⟩
  cases fl with
  | ret u =>
    obtain ⟨v, σ', H', J, rv, q⟩ := hs
    exact fin J rv q
  | next =>
    obtain ⟨σ', H', J, q⟩ := hs
    exact fin (v := V.non) (u := Value.none) J rfl q
  | brk =>
    obtain ⟨_, _, _, q⟩ := hs
    exact q.elim
  | cont =>
    obtain ⟨_, _, _, q⟩ := hs
    exact q.elim
section
variable {P : Program} {w : World} {K : PySem.W.Frag} {mg : Str → Option Value} {base : Heap}
/-- a def that may raise, by its body -/
theorem okN {x qual : Str} {st : Stmt} {f : Addr} {fd : FuncData} {N ps : List Str} {n : Nat} {sp : Sp} (F : Fun K x qual st f fd) (S : FnScope N ps (defScope st)) (len : ∀ vs H Q E, sp vs H Q E → vs.length = ps.length)
    (hbody : ∀ (cdv : Value) (A : Around) (outer : List Env) (s : Shared) (H : Hp) (vs : List V) (Q : VK) (E : XK), RoomN n (A.deeper (envOfC qual (defScope st) s.heap.objs.size f cdv)) → sp vs H Q E →
      ∃ t, PSs (cxOf (L2N.CX P w) P w K mg base N qual (defScope st) f cdv A outer s H E) (defBody st) t ∧ t { nx := fun _ H' => Q .non H', rt := Q } (start N vs) H) :
    FnN P w K mg base (L2N.CX P w) (n + 1) f fd ps sp := by
  obtain ⟨oc, od, kV, doc, pm, an, cdv, ct, osl, rfl, lk, hcd⟩ := F.ex
  exact fnN_of lk hcd S len fun A outer s H vs Q E hr hsp => hbody cdv A outer s H vs Q E hr hsp
/-- a def that lets nothing out, by its body -/
theorem okN0 {x qual : Str} {st : Stmt} {f : Addr} {fd : FuncData} {N ps : List Str} {n : Nat} {sp : Sp} (F : Fun K x qual st f fd) (S : FnScope N ps (defScope st)) (len : ∀ vs H Q E, sp vs H Q E → vs.length = ps.length)
    (hbody : ∀ (cdv : Value) (A : Around) (outer : List Env) (s : Shared) (H : Hp) (vs : List V) (Q : VK) (E : XK), RoomN n (A.deeper (envOfC qual (defScope st) s.heap.objs.size f cdv)) → sp vs H Q E →
      ∃ t, PSs (cxOf CX0 P w K mg base N qual (defScope st) f cdv A outer s H E).nox (defBody st) t ∧ t { nx := fun _ H' => Q .non H', rt := Q } (start N vs) H) :
    FnN P w K mg base CX0 (n + 1) f fd ps sp := by
  obtain ⟨oc, od, kV, doc, pm, an, cdv, ct, osl, rfl, lk, hcd⟩ := F.ex
  refine fnN_of lk hcd S len fun A outer s H vs Q E hr hsp => ?_
  obtain ⟨t, h, q⟩ := hbody cdv A outer s H vs Q E hr hsp
  exact ⟨t, h.nox, q⟩
end
end FW

set_option Elab.async false
set_option linter.all false
set_option maxRecDepth 100000
set_option maxHeartbeats 4000000
/-! InfD: short words: a def that is known by its promise, exception classes, data. -/
namespace FW
open PySem PySem.Spec PyProof.Rows L2

theorem iteFr {b : Bool} {A B : Prop} (e : b = false) (h : B) : if b = true then A else B := by
  rw [e]
  exact iteF h
theorem iteTr {b : Bool} {A B : Prop} (e : b = true) (h : A) : if b = true then A else B := by
  rw [e]
  exact iteT h
structure CalN (P : Program) (w : World) (K : PySem.W.Frag) (mg : Str → Option Value) (base : Heap) (CX : CXT) (n : Nat) (x : Str) (ps : List Str) (sp : Sp) : Prop where
  ex : ∃ f fd, mg x = some (.ref f) ∧ PySem.W.keepIn K (.ref f) = true ∧ Binds K fd ps [] ∧ FnN P w K mg base CX n f fd ps sp
structure MetN (P : Program) (w : World) (K : PySem.W.Frag) (mg : Str → Option Value) (base : Heap) (CX : CXT) (n : Nat) (C : Addr) (m : Str) (ps : List Str) (sp : Sp) : Prop where
  cl : Cls K C
  ex : ∃ f fd, Meth K C m f ∧ Binds K fd ps [] ∧ FnN P w K mg base CX n f fd ps sp
structure MakN (P : Program) (w : World) (K : PySem.W.Frag) (mg : Str → Option Value) (base : Heap) (CX : CXT) (k : Nat) (x : Str) (C : Addr) (ps : List Str) (sp : Sp) : Prop where
  ex : ∃ f fd, Mk K C f ∧ mg x = some (.ref C) ∧ Binds K fd ps [] ∧ FnOk P w K mg base CX k f fd ps sp
section
variable {X : Cx} {CX : CXT} {k m n : Nat} {C : Addr} {ps : List Str} {sp : Sp} {E : XK} {x y : Str} {p pos apos : Pos} {e o : Expr} {es : List Expr} {ta : TE} {t : TA}
theorem pe_cN (c : CalN X.prog X.w X.K X.mg X.base CX m x ps sp) (hr : RoomN n X.A) (hg : Gl X x) (hx : Passes CX X E) (ha : PA X (e :: es) t) (hmn : m ≤ n := by omega) (hdb : (x == ("__debug__" : Str)) = false := by decide)
    (he : starEach (e :: es) X.env = (false, eval e X.env) :: starEach es X.env := by rfl) (hpl : (backTo pos (starEach es X.env)).any (·.1) = false := by rfl) :
    PE X (.Call (.Name x p) (e :: es) [] pos) (tCall sp [] E t) := by
  obtain ⟨f, fd, gm, kp, b, F⟩ := c.ex
  exact pe_callN F (hr.mono hmn) hg gm kp b .nil hx ha hdb he hpl
theorem pe_mN {pl : Sem Bool} (c : MetN X.prog X.w X.K X.mg X.base CX m C y ps sp) (he : PE X o ta) (hr : RoomN n X.A) (hx : Passes CX X E) (ha : PA X (e :: es) t) (hmn : m ≤ n := by omega)
    (hst : starEach (e :: es) X.env = (false, eval e X.env) :: starEach es X.env := by rfl) (hpl : (backTo pos (starEach es X.env)).any (·.1) = false := by rfl)
    (ht : eval (.Call (.Attribute o y apos) (e :: es) [] pos) X.env = (do
      let ov ← eval o X.env
      standAt apos.atName
      let (f, first) ← holding [ov] (getMethod ov y pl)
      callWith pos f first (backTo pos (starEach (e :: es) X.env)) (backToKw pos (keywordEach [] X.env))) := by rfl) :
    PE X (.Call (.Attribute o y apos) (e :: es) [] pos) (tMeth C y sp [] E ta t) := by
  obtain ⟨f, fd, M, b, F⟩ := c.ex
  exact pe_methN he c.cl M F (hr.mono hmn) b .nil hx ha hst hpl ht
theorem pe_kN (c : MakN X.prog X.w X.K X.mg X.base CX k x C ps sp) (hr : RoomN n X.A) (hg : Gl X x) (hx : Passes CX X E) (ha : PA X (e :: es) t) (hk : k + 1 ≤ 5 := by omega) (hdb : (x == ("__debug__" : Str)) = false := by decide)
    (he : starEach (e :: es) X.env = (false, eval e X.env) :: starEach es X.env := by rfl) (hpl : (backTo pos (starEach es X.env)).any (·.1) = false := by rfl) :
    PE X (.Call (.Name x p) (e :: es) [] pos) (tMake C sp [] E t) := by
  obtain ⟨f, fd, M, gm, b, F⟩ := c.ex
  exact pe_make M F (hr.room.mono hk) hg gm b .nil hx ha hdb he hpl
/-- a def's own air -/
theorem pX_of (tk : L2N.Takes X (fun cls d _ H => E cls d H)) : Passes (L2N.CX X.prog X.w) X E := L2N.passes_call tk fun _ _ _ _ h => h
end

structure XCls (K : PySem.W.Frag) (mg : Str → Option Value) (x : Str) (C : Addr) : Prop where
  g : mg x = some (.ref C)
  ex : PySem.W.excIn K C [.type "ValueError", .type "Exception", .type "BaseException", .type "object"] "ValueError.__new__" = true
  kp : PySem.W.keepIn K (.ref C) = true
  sb : PySem.W.subIn K (.ref C) (.type "BaseException") = some true
  ty : PySem.W.typeIn K (.ref C) = some (.type "type")
theorem mkE {X : Cx} {x m : Str} {C : Addr} {j : Nat} {p p2 pos : Pos} (c : XCls X.K X.mg x C) (hg : Gl X x) (hdb : (x == ("__debug__" : Str)) = false := by decide) :
    L2N.PMk X (.Call (.Name x p) [.Constant (.str m) j p2] [] pos) (fun _ H Q => Q (.ref C) none H) :=
  L2N.pmk_own PySem.F.excBase_ValueError c.ex c.g c.kp (raises_own c.sb c.ty) hg hdb

section
variable {X : Cx} {x : Str} {pos : Pos}
/-- a built-in class, a module's number, an own class as values -/
theorem pe_tyN {n : String} (hg : Gl X x) (hm : X.mg x = none) (hv : bootBuiltins x = some (.type n)) (hn : x ≠ "__name__" := by decide) (hdb : (x == ("__debug__" : Str)) = false := by decide) : PE X (.Name x pos) (tC (.ty n)) :=
  pe_bltn hg hm hv rfl hn hdb
theorem pe_gI {i : Int} {t : Tok} (hg : Gl X x) (hm : X.mg x = some (.int i t)) (hdb : (x == ("__debug__" : Str)) = false := by decide) : PE X (.Name x pos) (tC (.int i)) := pe_glob hg hm ⟨_, rfl⟩ hdb
theorem pe_gR {a : Addr} (hg : Gl X x) (hm : X.mg x = some (.ref a)) (hdb : (x == ("__debug__" : Str)) = false := by decide) : PE X (.Name x pos) (tC (.ref a)) := pe_glob hg hm rfl hdb
end

/-! ### what stays: all but one object -/
def Fwd (r : Addr) (H H' : Hp) : Prop := ∀ b o, H b = some o → b ≠ r → H' b = some o
theorem Fwd.refl (r : Addr) (H : Hp) : Fwd r H H := fun _ _ h _ => h
theorem Fwd.trans {r : Addr} {H H1 H2 : Hp} (a : Fwd r H H1) (b : Fwd r H1 H2) : Fwd r H H2 := fun x o h n => b x o (a x o h n) n
theorem Fwd.new {r p : Addr} {H : Hp} {o : HO} (h : H p = none) : Fwd r H (upd H p o) := fun b u q _ => by
  rw [upd_ne (ne_of_none q h)]
  exact q
theorem Fwd.own {r : Addr} {H : Hp} {o : HO} : Fwd r H (upd H r o) := fun b u q n => by
  rw [upd_ne n]
  exact q
/-- a later object changes -/
theorem Fwd.late {r p : Addr} {H H' : Hp} {o : HO} (f : Fwd r H H') (h : H p = none) : Fwd r H (upd H' p o) := fun b u q n => by
  rw [upd_ne (ne_of_none q h)]
  exact f b u q n
theorem Fwd.none {r p : Addr} {H H' : Hp} (f : Fwd r H H') (h : H' p = none) (n : p ≠ r) : H p = none := by
  cases q : H p with
  | none => rfl
  | some o =>
    rw [f p o q n] at h
    cases h
theorem Fwd.non {r : Addr} {H H' : Hp} (f : Fwd r H H') (ho : ∃ o, H' r = some o) {p : Addr} (h : H' p = Option.none) : H p = Option.none := by
  obtain ⟨o, ho⟩ := ho
  exact f.none h (ne_of_none ho h).symm
/-- r holds no tuple -/
def NoSeq (H : Hp) (r : Addr) : Prop := ∃ o, H r = some o ∧ (∀ xs, o ≠ .tup xs) ∧ ∀ q u, o ≠ .frz q u
theorem sqT_fwd {K : PySem.W.Frag} {H H' : Hp} {r a : Addr} {xs : List V} (n : NoSeq H r) (f : Fwd r H H') (h : SqT K H a xs) : SqT K H' a xs := by
  obtain ⟨o, ho, n1, n3⟩ := n
  rcases h with (h | ⟨q, h⟩) | h
  · exact .inl (.inl (f _ _ h fun e => by
      rw [e, ho] at h
      exact n1 _ (Option.some.inj h)))
  · exact .inl (.inr ⟨q, f _ _ h fun e => by
      rw [e, ho] at h
      exact n3 _ _ (Option.some.inj h)⟩)
  · exact .inr h
mutual
/-- data of numbers, texts and tuples -/
inductive Dq (K : PySem.W.Frag) (H : Hp) : V → PyData → Prop
  | int (i : Int) : Dq K H (.int i) (.int i)
  | str (x : Str) : Dq K H (.str x) (.str x)
  | tup {a : Addr} {xs : List V} {ds : List PyData} : SqT K H a xs → DqAll K H xs ds → Dq K H (.ref a) (.tuple ds)
inductive DqAll (K : PySem.W.Frag) (H : Hp) : List V → List PyData → Prop
  | nil : DqAll K H [] []
  | cons {v : V} {vs : List V} {d : PyData} {ds : List PyData} : Dq K H v d → DqAll K H vs ds → DqAll K H (v :: vs) (d :: ds)
end
mutual
theorem Dq.dp {K : PySem.W.Frag} {H : Hp} : ∀ {v : V} {d : PyData}, Dq K H v d → Dp K H v d
  | _, _, .int i => .int i
  | _, _, .str x => .str x
  | _, _, .tup h t => .tup h (DqAll.dp t)
theorem DqAll.dp {K : PySem.W.Frag} {H : Hp} : ∀ {vs : List V} {ds : List PyData}, DqAll K H vs ds → DpAll K H vs ds
  | _, _, .nil => .nil
  | _, _, .cons h t => .cons (Dq.dp h) (DqAll.dp t)
end
mutual
theorem dp_fwd {K : PySem.W.Frag} {H H' : Hp} {r : Addr} (n : NoSeq H r) (f : Fwd r H H') : ∀ {v : V} {d : PyData}, Dq K H v d → Dq K H' v d
  | _, _, .int i => .int i
  | _, _, .str x => .str x
  | _, _, .tup h t => .tup (sqT_fwd n f h) (dps_fwd n f t)
theorem dps_fwd {K : PySem.W.Frag} {H H' : Hp} {r : Addr} (n : NoSeq H r) (f : Fwd r H H') : ∀ {vs : List V} {ds : List PyData}, DqAll K H vs ds → DqAll K H' vs ds
  | _, _, .nil => .nil
  | _, _, .cons h t => .cons (dp_fwd n f h) (dps_fwd n f t)
end
theorem dpall_len {K : PySem.W.Frag} {H : Hp} : ∀ {vs : List V} {ds : List PyData}, DqAll K H vs ds → vs.length = ds.length
  | _, _, .nil => rfl
  | _, _, .cons _ t => congrArg (· + 1) (dpall_len t)
theorem dpall_get {K : PySem.W.Frag} {H : Hp} : ∀ {vs : List V} {ds : List PyData} {i : Nat} {d : PyData}, DqAll K H vs ds → ds[i]? = some d → ∃ v, vs[i]? = some v ∧ Dq K H v d
  | _, _, _, _, .nil, h => by simp at h
  | _, _, 0, _, .cons h _, e => by
    cases e
    exact ⟨_, rfl, h⟩
  | _, _, i + 1, _, .cons _ t, e => by
    obtain ⟨v, h1, h2⟩ := dpall_get (i := i) t (by simpa using e)
    exact ⟨v, by simpa using h1, h2⟩
theorem dp_tup {K : PySem.W.Frag} {H : Hp} {v : V} {ds : List PyData} (h : Dq K H v (.tuple ds)) : ∃ a xs, v = .ref a ∧ SqT K H a xs ∧ DqAll K H xs ds := by
  cases h with
  | tup h t => exact ⟨_, _, rfl, h, t⟩
theorem dp_str {K : PySem.W.Frag} {H : Hp} {v : V} {x : Str} (h : Dq K H v (.str x)) : v = .str x := by
  cases h
  rfl
theorem dp_int {K : PySem.W.Frag} {H : Hp} {v : V} {i : Int} (h : Dq K H v (.int i)) : v = .int i := by
  cases h
  rfl
/-- the type of a tuple -/
theorem tyT {K : PySem.W.Frag} {H : Hp} {a : Addr} {xs : List V} (h : SqT K H a xs) : TyX K H (.ref a) (.type "tuple") := by
  rcases h with (h | ⟨q, h⟩) | ⟨o, its, n, h, c, _⟩
  · exact .base (.tup h)
  · exact .fTuple h
  · exact .kTuple h c
end FW

set_option Elab.async false
set_option linter.all false
set_option maxRecDepth 100000
set_option maxHeartbeats 4000000
/-! HotL: lists walked while an exception is handled: comprehension, sum. -/
namespace FW
open PySem PySem.Spec PyProof.Rows HotX
section
variable {prog : Program} {w : World} {A : Around} {E : Value → Shared → Prop} {s : Shared}
theorem pyNext_list_end_hot {it l x1 : Addr} {i : Nat} {items} {Q : Option Value → Shared → Prop} (hot : HotAt A x1 s.heap) (hne : x1 ≠ it)
    (hit : s.heap.IsListIter it l i) (hl : s.heap.IsList l items) (hx : items[i]? = none)
    (hQ : ∀ h', Heap.ExtBut it s.heap h' → Q none { s with heap := h' }) : wpAny (model prog w) A (pyNext (.ref it)) Q E s := by
  obtain ⟨hh, o1, vs1, h1, d1, c1⟩ := hot
  obtain ⟨o, ho, hc, hd⟩ := id hit
  obtain ⟨ol, hol, _, nl, hdl⟩ := hl
  unfold pyNext
  refine wpAny_bind (wpAny_attempt (wpAny_callSpecial?_slot (name := Str.ofString "__next__") hit.typeIs slot_listiter_next
    (wpAny_call_entry slot_listiter_next hit.typeIs entry_listiter_next ?_ (args_listiter_next _))))
  show wpAny _ _ (field (.ref it) 0 >>= _) _ _ s
  refine wpAny_bind (wpAny_field ho hd (x := .ref l) rfl ?_)
  show wpAny _ _ (if (Value.ref l == Value.none) = true then _ else _) _ _ s
  rw [if_neg (show ¬ ((Value.ref l == Value.none) = true) from Bool.false_ne_true)]
  show wpAny _ _ (field (.ref it) 1 >>= _) _ _ s
  refine wpAny_bind (wpAny_field ho hd (x := .int i 0) rfl ?_)
  show wpAny _ _ (seqItems? (.ref l) >>= _) _ _ s
  refine wpAny_bind (wpAny_seqItems hol hdl ?_)
  simp only [Int.toNat_natCast, hx]
  refine wpAny_bind (wpAny_rule (wpAny_bind (wpAny_setField ho hd (by simp) ?_)))
  show wpAny _ _ (newExc (.type "StopIteration") [] >>= _) _ _ _
  refine wpAny_bind ?_
  simp only [newExc, newTuple]
  refine wpAny_bind (wpAny_newObj_type ?_ (by size_fits))
  refine wpAny_bind (m := firstArgMember _ _) (wpAny_of_eq (a := Value.none) (by first | rfl | (simp only [firstArgMember]; rfl)) ?_)
  refine wpAny_newObj_type ?_ (by size_fits)
  have k1 : ∀ (f : Obj → Obj), (s.heap.update it f).get? x1 = some o1 := fun f => by
    rw [Heap.get?_update_other _ _ hne.symm]
    exact h1
  refine raiseNew_hot ⟨hh, o1, vs1, Heap.get?_push_of_some _ (Heap.get?_push_of_some _ (k1 _)), d1, c1⟩ (Nat.ne_of_lt (Heap.lt_size (Heap.get?_push_of_some _ (k1 _)))) (Heap.get?_push_size _ rfl) rfl (by first | (simp; done) | (simp; omega) | (simp only [Array.size_append]; simp; omega)) ?_
  refine wpAny_bind (wpAny_isInstance (T := "StopIteration") (b := true) ⟨_, Heap.get?_update_self _ (Heap.get?_push_size _ rfl) rfl, rfl⟩ isSubtype_stop ?_)
  refine wpAny_pure (hQ _ fun b o hb e => ?_)
  have k2 : ∀ (f : Obj → Obj), (s.heap.update it f).get? b = some o := fun f => by
    rw [Heap.get?_update_other _ _ (Ne.symm hb)]
    exact e
  rw [Heap.get?_update_other _ _ (Nat.ne_of_gt (Heap.lt_size (Heap.get?_push_of_some _ (k2 _))))]
  exact Heap.get?_push_of_some _ (Heap.get?_push_of_some _ (k2 _))
end

section
/-- a list's walk within an except suite -/
theorem walks_hot {prog : Program} {w : World} {A : Around} {x1 : Addr} {o1 : Obj} {vs1 : Array Value} (hh : A.handled = some (.ref x1)) (d1 : o1.data = .fields vs1) (c1 : vs1[2]? = some .none) (I ax : Addr) (hne : ax ≠ I) (h1 : x1 ≠ I) (items : Array Value) :
    Walks prog w A I [I, ax, x1] [I] items.size (fun i v => items[i]? = some v) (fun i h => h.IsListIter I ax i ∧ h.IsList ax items ∧ h.get? x1 = some o1) where
  sub := fun b hb => by simp at hb; simp [hb]
  frame := fun _ _ _ st hk => ⟨st.1.at fun o e => hk I (by simp) o e, st.2.1.at fun o e => hk ax (by simp) o e, hk x1 (by simp) _ st.2.2⟩
  item := fun i s Q E hi st hQ => by
    refine wpAny_pyNext_list_item st.1 st.2.1 (x := items[i]) (by simp [hi]) fun h' hit' hs' => ?_
    exact hQ _ h' s.toks (by simp [hi]) ⟨hit', st.2.1.extBut hs'.extBut hne, hs'.extBut _ _ h1 st.2.2⟩ fun b o hb e => hs'.extBut b o (fun h => hb (by simp [h])) e
  done := fun s Q E st hQ => pyNext_list_end_hot ⟨hh, o1, vs1, st.2.2, d1, c1⟩ h1 st.1 st.2.1 (by simp) fun h' he' => hQ h' s.toks fun b o hb e => he' b o (fun h => hb (by simp [h])) e
  self := fun _ _ _ _ st hQ => wpAny_pyIter_listiter st.1 hQ
variable {prog : Program} {w : World} {A : Around} {E : Value → Shared → Prop} {s : Shared} {l : Addr} {its : List Value} {ns : List Int}
theorem sum_rawH {Q : Value → Shared → Prop} {x1 : Addr} (hot : HotAt A x1 s.heap) (hl : s.heap.IsList l its.toArray) (hi : IntsAre its ns)
    (h : ∀ h' tk t', (∀ b o, s.heap.get? b = some o → h'.get? b = some o) → Q (.int ns.sum t') { s with heap := h', toks := tk }) : wpAny (model prog w) A (call (.builtin "sum") [.ref l]) Q E s := by
  obtain ⟨hh, o1, vs1, h1, d1, c1⟩ := hot
  obtain ⟨xs, e⟩ := hi.allInts.items
  have hn : numsOf (intItems xs).toList = ns := by rw [← e]; exact hi.numsOf
  rw [nums_intItems] at hn
  rw [e] at hl
  refine call_sum_walkG (iter_intList hl fun s₂ e st hfp hlI => ?_)
  subst e
  have h1' : (s.heap.push { cls := .type "list_iterator", data := .fields #[.ref l, .int 0 0] }).get? x1 = some o1 := Heap.get?_push_of_some _ h1
  refine ⟨_, _, _, _, _, _, numAt xs, rfl, walks_hot (A := A.in1) hh d1 c1 _ l hlI (Nat.ne_of_lt (Heap.lt_size h1)) (intItems xs), ⟨st.1, st.2, h1'⟩, ?_, (fun _ _ => intItems_at), fun h' tk t' hk => ?_⟩
  · intro b hb
    rcases List.mem_cons.mp hb with rfl | hb
    · exact hfp _ (by simp)
    · rcases List.mem_cons.mp hb with rfl | hb
      · exact hfp _ (by simp)
      · rw [List.mem_singleton] at hb
        subst hb
        exact Heap.lt_size h1'
  · have e2 : preSum (numAt xs) (intItems xs).size = ns.sum := by
      rw [preSum_eq, List.take_of_length_le (by simp [intItems]), hn]
    rw [e2]
    exact h h' tk t' (old_kept hk)
end
section
open L2 L2H
variable {X : Cx}
/-- a list's comprehension within an except suite, as a value -/
theorem pe_lcH {elt tg iter : Expr} {scope : Scope} {own : List (Str × Nat)} {pos : Pos} {tl : TE} {g : TG} {te : TE} (hot : HotC X) (hN : X.N.Nodup) (hl : PE X iter tl) (ok : BlkOk X.N X.env.scope scope own)
    (hg : ∀ (s : Shared) (H : Hp) (C : Addr) (cl : List (Str × Addr)) (fp : List Addr), PG (X.blk s H scope (compEnvC scope cl C X.env) fp) tg g)
    (he : ∀ (s : Shared) (H : Hp) (C : Addr) (cl : List (Str × Addr)) (fp : List Addr), PE (X.blk s H scope (compEnvC scope cl C X.env) fp) elt te) (hs : ∀ x, foldedSetIterable iter X.env x = pure x := by intro _; rfl) :
    PE X (.ListComp elt [⟨tg, iter, [], 0⟩] scope pos) (tLc (iList X.K tl) g tYes te (own.map (·.2))) := by
  refine ⟨fun pins s σ H Q I h => ?_⟩
  rw [eval_ListComp]
  obtain ⟨p1, ⟨hh, v1, ev1, cv1⟩, hp1⟩ := hot
  have free : ∀ y ∈ scope.names, y.2 = .free → ∃ c, X.env.cells.lookup y.1 = some c := fun y hy z => by
    rcases ok.free y hy z with k | k
    · exact I.ok.has _ (.inl k)
    · exact I.ok.has _ (.inr k)
  refine wpAny_comprehension_free (use := none) rfl hs (closure_ok free) ok.kind (fun y hy z => by rw [ok.uniq y hy, z]) (thn (hl.run pins s σ H _ I h) fun xv s1 h1 => ?_)
  obtain ⟨x, H2, I1, r1, a, rfl, ⟨xs, hq⟩, q⟩ := h1
  cases r1
  obtain ⟨its, rv, pl, hz⟩ := I1.list hq
  refine wpAny_pyIter_list pl.isList ?_
  obtain ⟨it, hit⟩ : ∃ it, s1.heap.objs.size = it := ⟨_, rfl⟩
  obtain ⟨s2, hs2⟩ : ∃ s2 : Shared, ({ s1 with heap := s1.heap.push { cls := .type "list_iterator", data := .fields #[.ref a, .int 0 0] } } : Shared) = s2 := ⟨_, rfl⟩
  rw [hit, show ({ s1 with heap := s1.heap.push { cls := .type "list_iterator", data := .fields #[.ref a, .int 0 0] } } : Shared) = s2 from hs2]
  have hs2h : s2.heap = s1.heap.push { cls := .type "list_iterator", data := .fields #[.ref a, .int 0 0] } := by rw [← hs2]
  have I2 : Inv X pins σ H2 s2 := by
    rw [← hs2]
    exact I1.kept (t' := s1.toks) fun b o e => Heap.get?_push_of_some _ e
  have st2 : s2.heap.IsListIter it a 0 := by
    rw [hs2h, ← hit]
    exact ⟨_, Heap.get?_push_size _ rfl, rfl, rfl⟩
  have f2 : ∀ b ∈ [it], FpOk X pins H2 b := fun b hb => by
    have e : b = it := List.mem_singleton.mp hb
    subst e
    exact I1.fpOk (Nat.le_of_eq hit) (I1.hok.fresh (Nat.le_of_eq hit))
  have T_obj : ∀ (i : Nat) (h : Heap), h.IsListIter it a i → ∀ b ∈ [it], ∃ o, h.get? b = some o ∧ ∀ v, o.data ≠ .cell v := fun i h st b hb => by
    have e : b = it := List.mem_singleton.mp hb
    subst e
    obtain ⟨o, e, c, d⟩ := st
    exact ⟨o, e, fun v z => by rw [d] at z; cases z⟩
  have T_keep : ∀ (i : Nat) (h h' : Heap), h.IsListIter it a i → (∀ b ∈ [it], ∀ o, h.get? b = some o → h'.get? b = some o) → h'.IsListIter it a i :=
    fun i h h' st k => st.at fun o e => k it (List.mem_singleton.mpr rfl) o e
  generalize hfp : [it] = fp at f2 T_obj T_keep
  have mfp : it ∈ fp := by rw [← hfp]; exact List.mem_singleton.mpr rfl
  have ofp : ∀ b ∈ fp, b = it := fun b hb => by
    rw [← hfp] at hb
    exact List.mem_singleton.mp hb
  refine wpAny_newObj_type (newEnv_comp ?_) (by show 0 ≤ sizeLine; decide)
  obtain ⟨D, hD⟩ : ∃ D, s2.heap.objs.size = D := ⟨_, rfl⟩
  have freshD : H2 D = none := I2.hok.fresh (Nat.le_of_eq hD)
  rw [hD]
  obtain ⟨W, ⟨m0, w0⟩, turn⟩ := q D freshD
  obtain ⟨s3, hs3⟩ : ∃ s3 : Shared, ({ s2 with heap := s2.heap.push { cls := .type "list", data := .seq ([] : List Value).toArray } } : Shared) = s3 := ⟨_, rfl⟩
  have I3 : Inv X pins σ (upd H2 D (.lst [])) s3 := by
    subst hs3
    refine I2.laid (t' := s2.toks) (fun b o z => Heap.get?_push_of_some _ z) (Nat.le_of_eq hD) ⟨Nat.zero_le _, [], 0, .nil, ?_⟩
    rw [← hD]
    exact Heap.get?_push_size _ rfl
  have hp3 : s3.heap = s2.heap.push { cls := .type "list", data := .seq ([] : List Value).toArray } := by
    rw [← hs3]
  have f3 : ∀ b ∈ fp, FpOk X pins (upd H2 D (.lst [])) b ∧ b < s3.heap.objs.size := fun b hb => by
    obtain ⟨o, ho, _⟩ := T_obj _ _ st2 b hb
    have lt := Heap.lt_size ho
    have fb := f2 b hb
    refine ⟨⟨?_, fb.2⟩, by
      rw [hp3, Heap.size_push]
      exact Nat.lt_succ_of_lt lt⟩
    rw [upd_ne (fun z => by
      rw [z, ← hD] at lt
      exact Nat.lt_irrefl _ lt)]
    exact fb.1
  have st3 : s3.heap.IsListIter it a 0 := T_keep _ _ _ st2 fun b _ o z => by
    rw [hp3]
    exact Heap.get?_push_of_some _ z
  have I4 := block_start I3 ok hN f3
  have pg := hg s3 (upd H2 D (.lst [])) s3.heap.objs.size (cellsFrom (s3.heap.objs.size + 1) scope.names (cloFrom X.env.cells scope.names [])) fp
  have pe := he s3 (upd H2 D (.lst [])) s3.heap.objs.size (cellsFrom (s3.heap.objs.size + 1) scope.names (cloFrom X.env.cells scope.names [])) fp
  rw [hs3]
  -- the handled exception's object
  obtain ⟨g1, n1, l1, fs1, _⟩ := I3.pin p1 (List.mem_append_left _ hp1)
  have nfr : p1.1 ∉ frs X.stack := fun z => by
    rcases List.mem_cons.mp (I3.stkSub _ z) with e | e
    · exact l1 e
    · exact fs1 e
  have nit : p1.1 ≠ it := (f2 it mfp).2.2.2.2.2 p1 (List.mem_append_left _ hp1)
  show codeAny _ _ (.compStart (.ListComp elt [⟨tg, iter, [], 0⟩] scope pos) 0 (.ref it) (.ref D) (compEnvC scope (cellsFrom (s3.heap.objs.size + 1) scope.names (cloFrom X.env.cells scope.names [])) s3.heap.objs.size X.env))
    (compPost (model X.prog X.w) X.A X.xe none (EP X pins σ Q) (.ref D) s3.heap.objs.size) { s3 with heap := pushCells (s3.heap.push { cls := .type "dict", data := .dict #[] }) scope.names }
  have nfp : ∀ b ∈ fp, (upd H2 D (.lst [])) b = none := fun b hb => (f3 b hb).1.1
  have cL : (compEnvC scope (cellsFrom (s3.heap.objs.size + 1) scope.names (cloFrom X.env.cells scope.names [])) s3.heap.objs.size X.env).locals = s3.heap.objs.size := rfl
  generalize compEnvC scope (cellsFrom (s3.heap.objs.size + 1) scope.names (cloFrom X.env.cells scope.names [])) s3.heap.objs.size X.env = ce at I4 pg pe cL ⊢
  generalize upd H2 D (.lst []) = H3 at I3 I4 pg pe w0 nfp f3 n1
  obtain ⟨s4, hs4⟩ : ∃ s4 : Shared, ({ s3 with heap := pushCells (s3.heap.push { cls := .type "dict", data := .dict #[] }) scope.names } : Shared) = s4 := ⟨_, rfl⟩
  rw [hs4] at I4 ⊢
  have st4 : s4.heap.IsListIter it a 0 := T_keep _ _ _ st3 fun b _ o z => by
    rw [← hs4]
    exact pushCells_keeps _ _ _ _ (Heap.get?_push_of_some _ z)
  have stat : ∀ {σ' : L2.St} {H' : Hp} {s' : Shared}, Inv (X.blk s3 H3 scope ce fp) [] σ' H' s' → (∀ b ∈ fp, H' b = none) → ∀ b ∈ fp, FpOk (X.blk s3 H3 scope ce fp) [] H' b :=
    fun {σ' H' s'} I' hn b hb => ⟨hn b hb, (I'.ok.exf b hb).1, I'.ok.exfs b hb, .inl hb, fun x c z => (I'.ok.exf b hb).2 x c z, fun p hp => absurd (show p ∈ ([] : List (Addr × Obj)) ++ [] from hp) (by simp)⟩
  have loop : codeAny (model X.prog X.w) X.A (.compLoop (.ListComp elt [⟨tg, iter, [], 0⟩] scope pos) 0 (.ref it) (.ref D) ce) (compPost (model X.prog X.w) X.A X.xe none (EP X pins σ Q) (.ref D) s3.heap.objs.size) s4 := by
    refine compLoop_any (fun n s' => ∃ i H', Inv (X.blk s3 H3 scope ce fp) [] (wipe σ (own.map (·.2))) H' s' ∧ s'.heap.IsListIter it a i ∧ (∀ b ∈ fp, H' b = none) ∧ W i n H') ?_ m0 ⟨0, H3, I4, st4, nfp, w0⟩
    rintro n s5 ⟨i, H5, I5, st5, n5, w5⟩
    rcases turn i n H5 w5 with ⟨stop, qq⟩ | ⟨go, Nx, hNx, step⟩
    · obtain ⟨ys, hq5, hx5⟩ := stop
      obtain ⟨its5, rv5, pl5, hz5⟩ := I5.list hq5
      obtain ⟨f0, f1', f2', f3', f4', f5'⟩ := stat I5 n5 it mfp
      have hl5 := rv5.length
      have g5 : s5.heap.get? p1.1 = some p1.2 := I5.base.keep _ _ g1 n1 nfr (fun z => nit (ofp _ z))
      refine pyNext_list_end_hot ⟨hh, p1.2, v1, g5, ev1, cv1⟩ nit st5 pl5.isList (by simp; omega) fun h' eb => ?_
      have I6 : Inv (X.blk s3 H3 scope ce fp) [] (wipe σ (own.map (·.2))) H5 { s5 with heap := h' } := I5.turned (t' := s5.toks) (fun b o hb e => eb b o hb e) f0 f1' f3' f4' f5'
      have I7 : Inv X pins σ H5 { s5 with heap := h' } := I3.call' (ch := fp) I6.os I6.base I6.hok I6.bare fun b hb => ⟨(f3 b hb).1.2.2.2.1, (f3 b hb).1.2.1, (f3 b hb).1.2.2.2.2.1, (f3 b hb).1.2.2.2.2.2⟩
      have nC : H5 s3.heap.objs.size = none := by
        have z : H5 ce.locals = none := I6.free
        rwa [cL] at z
      obtain ⟨m, hn, _⟩ := I6.loc
      have hn : h'.Ns ce.locals m := hn
      rw [cL] at hn
      refine ⟨m, hn, fun h'' sb => ?_⟩
      obtain ⟨e0, e1, e2, e3, e4, e5⟩ := I3.fpOk (Nat.le_refl _) nC
      exact ⟨.ref D, H5, I7.turned (t' := s5.toks) (fun b o hb z => (sb.2 b hb).trans z) e0 e1 e3 e4 e5, rfl, qq⟩
    · obtain ⟨ys, x, hq5, hx5⟩ := go
      obtain ⟨its5, rv5, pl5, hz5⟩ := I5.list hq5
      obtain ⟨u, hu, ru⟩ := rv5.get hx5
      obtain ⟨f0, f1', f2', f3', f4', f5'⟩ := stat I5 n5 it mfp
      refine wpAny_pyNext_list_item st5 pl5.isList (x := u) (by simpa using hu) fun h' st' sb => ?_
      have I7 : Inv (X.blk s3 H3 scope ce fp) [] (wipe σ (own.map (·.2))) H5 { s5 with heap := h' } := I5.turned (t' := s5.toks) (fun b o hb e => (sb.2 b hb).trans e) f0 f1' f3' f4' f5'
      obtain ⟨o, eo, co, do_⟩ := id st'
      refine go_of (s := { s5 with heap := h' }) eo co do_ (by decide) ?_
      obtain ⟨s7, hs7⟩ : ∃ s7 : Shared, ({ s5 with heap := h' } : Shared) = s7 := ⟨_, rfl⟩
      have st7 : s7.heap.IsListIter it a (i + 1) := by rw [← hs7]; exact st'
      rw [hs7] at I7
      rw [show ({ s5 with heap := h' } : Shared) = s7 from hs7]
      have I7p := I7.pinned (stat I7 n5) (T_obj _ _ st7)
      refine thnF (pg.run _ s7 _ H5 x u _ I7p ru (step x H5 ⟨rfl, fun zs hz => by rw [I5.list_inj hz hq5]; exact hx5⟩)) fun _ s8 ⟨σ8, H8, I8, hw8, q8⟩ => ?_
      have fin : ∀ {s' : Shared} {H' : Hp}, Inv (X.blk s3 H3 scope ce fp) ([] ++ pinsAt fp s7.heap) σ8 H' s' → Nx H' →
          ∃ m, m < n ∧ ∃ i H', Inv (X.blk s3 H3 scope ce fp) [] (wipe σ (own.map (·.2))) H' s' ∧ s'.heap.IsListIter it a i ∧ (∀ b ∈ fp, H' b = none) ∧ W i m H' := fun {s' H'} I' nx => by
        obtain ⟨m', lt, w'⟩ := hNx H' nx
        have pin' : ∀ b ∈ fp, ∀ o, s7.heap.get? b = some o → s'.heap.get? b = some o ∧ H' b = none := fun b hb o z =>
          have k := I'.pin (b, o) (List.mem_append_right _ (List.mem_append_right _ (mem_pinsAt hb z)))
          ⟨k.1, k.2.1⟩
        have len8 : (wipe σ (own.map (·.2))).length = σ8.length := by
          rw [← hw8, wipe_length]
        refine ⟨m', lt, i + 1, H', (I'.unpinned (pins := [])).weak len8 (fun j v z => ?_), T_keep _ _ _ st7 fun b hb o z => (pin' b hb o z).1, fun b hb => ?_, w'⟩
        · rw [← hw8] at z
          exact (wipe_some z).1
        · obtain ⟨o, z, _⟩ := T_obj _ _ st7 b hb
          exact (pin' b hb o z).2
      refine wpAny_tests_nil ?_
      refine thnF (pe.run _ s8 σ8 H8 _ I8 q8) fun z s10 ⟨yv, H10, I10, r10, acc, hD10, hz10, nx⟩ => ?_
      exact app_ok (X := X.blk s3 H3 scope ce fp) I10 hD10 hz10 r10 fun s11 I11 => fin I11 nx
  exact codeAny_compStart_list loop (wpAny_pyIter_listiter st4 loop)

theorem cr_sumH (hot : HotC X) : CallR X (.builtin "sum") (rSum X.K) := by
  intro pins s σ H vs us Q I r h
  obtain ⟨a, ns, rfl, hs, q⟩ := h
  obtain ⟨its, rv, hl, _⟩ := I.list hs
  rw [Vals.ref1 r]
  obtain ⟨x1, hx⟩ := hot.at I
  exact sum_rawH hx hl.isList rv.ints fun h' tk t' hk => ⟨.int _, H, I.kept hk, ⟨_, rfl⟩, q⟩
end
end FW

set_option Elab.async false
set_option linter.all false
set_option maxRecDepth 100000
set_option maxHeartbeats 4000000
/-! Mir: what a phrase comes to, over environments by number. -/
namespace FW
open PySem L2

inductive Fault where
  | stuck | great | long | deep
  deriving DecidableEq

/-- values: a number, a block, a function with the number of its environment -/
inductive Val where
  | num (n : Int)
  | blk (w : Str) (vs : List Val)
  | fn (x : Str) (b : PyData) (k : Nat)
abbrev Env := List (Str × Val)
def envGet (e : Env) (x : Str) : Option Val := (e.find? fun p => decide (p.1 = x)).map (·.2)
def envPut (e : Env) (x : Str) (v : Val) : Env :=
  if (e.any fun p => decide (p.1 = x)) = true then e.map fun p => if p.1 = x then (p.1, v) else p else e ++ [(x, v)]
structure MS where
  envs : List Env
  begun : Nat
inductive Out (α : Type) where
  | ok (a : α) (s : MS)
  | bad (f : Fault) (s : MS)
def MS.env (s : MS) (k : Nat) : Env := s.envs.getD k []
def MS.new (s : MS) (e : Env) : MS := { s with envs := s.envs ++ [e] }

def greatest : Int := 10 ^ 60 - 1
def bnd (n : Int) (s : MS) : Out Val := if greatest < (if n < 0 then -n else n) then .bad .great s else .ok (.num n) s
def reck (w : Str) (a b : Val) (s : MS) : Out Val :=
  match a, b with
  | .num i, .num j =>
    if w = "plus" then bnd (i + j) s else if w = "minus" then bnd (i - j) s else if w = "times" then bnd (i * j) s
    else .ok (.num (if i < j then 1 else 0)) s
  | _, _ => .bad .stuck s
def isTag (w : Str) : Bool := (!decide (46 ∈ w.cps.toList)) && match w.cps.toList with
  | c :: _ => decide (c ∈ ("ABCDEFGHIJKLMNOPQRSTUVWXYZ" : Str).cps.toList)
  | [] => false

abbrev Go := PyData → Nat → MS → Out Val
def Out.then {α β : Type} (o : Out α) (f : α → MS → Out β) : Out β :=
  match o with
  | .ok a s => f a s
  | .bad x s => .bad x s
def evs (go : Go) : List PyData → Nat → MS → Out (List Val)
  | [], _, s => .ok [] s
  | p :: ps, k, s => (go p k s).then fun v s1 => (evs go ps k s1).then fun vs s2 => .ok (v :: vs) s2
/-- a call; go: none where ten are under way -/
def callF (most : Int) (go : Option Go) (f a : Val) (s : MS) : Out Val :=
  match f with
  | .fn x b k => if most ≤ (s.begun : Int) then .bad .long s else
      match go with
      | none => .bad .deep s
      | some g => g b s.envs.length { envs := s.envs ++ [envPut (s.env k) x a], begun := s.begun + 1 }
  | _ => .bad .stuck s
def ringPut (k : Nat) : List PyData → Env → Env
  | .tuple [.str f, .str x, b] :: r, e => ringPut k r (envPut e f (.fn x b k))
  | _, e => e
def asStr : PyData → Str
  | .str x => x
  | _ => Str.empty
def asTup : PyData → List PyData
  | .tuple xs => xs
  | _ => []
def evN (call : Val → Val → MS → Out Val) : Nat → Go
  | 0, _, _, s => .bad .stuck s
  | n + 1, p, k, s =>
    match p with
    | .int i => .ok (.num i) s
    | .str w => if isTag w = true then .ok (.blk w []) s else match envGet (s.env k) w with
      | some v => .ok v s
      | none => .bad .stuck s
    | .tuple [.str h, a, b] =>
      if h = "fun" then .ok (.fn (asStr a) b k) s
      else if h = "ring" then evN call n b s.envs.length (s.new (ringPut s.envs.length (asTup a) (s.env k)))
      else (evs (evN call n) [a, b] k s).then fun vs s1 =>
        if h = "call" then call (vs.getD 0 (.num 0)) (vs.getD 1 (.num 0)) s1 else reck h (vs.getD 0 (.num 0)) (vs.getD 1 (.num 0)) s1
    | .tuple [.str h, a, b, c] =>
      if h = "let" then (evN call n b k s).then fun v s1 => evN call n c s1.envs.length (s1.new (envPut (s1.env k) (asStr a) v))
      else (evN call n a k s).then fun v s1 => match v with
        | .num i => if i ≠ 0 then evN call n b k s1 else evN call n c k s1
        | _ => .bad .stuck s1
    | _ => .bad .stuck s
/-- u: the calls that may still be under way; D: the depth of all functions' phrases -/
def EV (D : Nat) (most : Int) : Nat → Nat → Go
  | 0 => evN (callF most none)
  | u + 1 => evN (callF most (some (EV D most u D)))
def EC (D : Nat) (most : Int) : Nat → Val → Val → MS → Out Val
  | 0 => callF most none
  | u + 1 => callF most (some (EV D most u D))
theorem EV_eq (D : Nat) (most : Int) (u : Nat) : EV D most u = evN (EC D most u) := by cases u <;> rfl

/-! ### phrases -/
def OpW (w : Str) : Prop := w = "plus" ∨ w = "minus" ∨ w = "times" ∨ w = "less"
inductive Wf (pool : List Str) : Nat → PyData → Prop where
  | int {n : Nat} {i : Int} : i.natAbs < 2 ^ 200 → Wf pool (n + 1) (.int i)
  | word {n : Nat} {w : Str} : w.cps.toList ≠ [] → w.length ≤ 1000 → Wf pool (n + 1) (.str w)
  | fn {n : Nat} {x : Str} {b : PyData} : x ∈ pool → Wf pool n b → Wf pool (n + 1) (.tuple [.str "fun", .str x, b])
  | call {n : Nat} {f a : PyData} : Wf pool n f → Wf pool n a → Wf pool (n + 1) (.tuple [.str "call", f, a])
  | op {n : Nat} {w : Str} {a b : PyData} : OpW w → Wf pool n a → Wf pool n b → Wf pool (n + 1) (.tuple [.str w, a, b])
  | iff {n : Nat} {c a b : PyData} : Wf pool n c → Wf pool n a → Wf pool n b → Wf pool (n + 1) (.tuple [.str "if", c, a, b])
  | lett {n : Nat} {x : Str} {a b : PyData} : x ∈ pool → Wf pool n a → Wf pool n b → Wf pool (n + 1) (.tuple [.str "let", .str x, a, b])
  | ring {n : Nat} {fs : List (Str × Str × PyData)} {e : PyData} : (∀ f ∈ fs, f.1 ∈ pool ∧ f.2.1 ∈ pool) → (∀ f ∈ fs, Wf pool n f.2.2) → fs.length ≤ 100 → Wf pool n e →
      Wf pool (n + 1) (.tuple [.str "ring", .tuple (fs.map fun f => .tuple [.str f.1, .str f.2.1, f.2.2]), e])
theorem Wf.mono {pool : List Str} {n : Nat} {p : PyData} (h : Wf pool n p) : ∀ {m : Nat}, n ≤ m → Wf pool m p := by
  induction h with
  | int h => intro m l; obtain ⟨m, rfl⟩ : ∃ j, m = j + 1 := ⟨m - 1, by omega⟩; exact .int h
  | word h h' => intro m l; obtain ⟨m, rfl⟩ : ∃ j, m = j + 1 := ⟨m - 1, by omega⟩; exact .word h h'
  | fn hx _ ih => intro m l; obtain ⟨m, rfl⟩ : ∃ j, m = j + 1 := ⟨m - 1, by omega⟩; exact .fn hx (ih (by omega))
  | call _ _ i1 i2 => intro m l; obtain ⟨m, rfl⟩ : ∃ j, m = j + 1 := ⟨m - 1, by omega⟩; exact .call (i1 (by omega)) (i2 (by omega))
  | op w _ _ i1 i2 => intro m l; obtain ⟨m, rfl⟩ : ∃ j, m = j + 1 := ⟨m - 1, by omega⟩; exact .op w (i1 (by omega)) (i2 (by omega))
  | iff _ _ _ i1 i2 i3 => intro m l; obtain ⟨m, rfl⟩ : ∃ j, m = j + 1 := ⟨m - 1, by omega⟩; exact .iff (i1 (by omega)) (i2 (by omega)) (i3 (by omega))
  | lett hx _ _ i1 i2 => intro m l; obtain ⟨m, rfl⟩ : ∃ j, m = j + 1 := ⟨m - 1, by omega⟩; exact .lett hx (i1 (by omega)) (i2 (by omega))
  | ring hf _ hl _ i1 i2 =>
    intro m l
    obtain ⟨m, rfl⟩ : ∃ j, m = j + 1 := ⟨m - 1, by omega⟩
    exact .ring hf (fun f hm => i1 f hm (by omega)) hl (i2 (by omega))

/-! ### one turn -/
section
variable {call : Val → Val → MS → Out Val} {n k : Nat} {s : MS} {a b c : PyData} {x w : Str}
theorem ev_int {i : Int} : evN call (n + 1) (.int i) k s = .ok (.num i) s := rfl
theorem ev_word : evN call (n + 1) (.str w) k s = if isTag w = true then .ok (.blk w []) s else match envGet (s.env k) w with
    | some v => .ok v s
    | none => .bad .stuck s := rfl
theorem ev_fn : evN call (n + 1) (.tuple [.str "fun", .str x, b]) k s = .ok (.fn x b k) s := by
  rw [evN, if_pos rfl]
  rfl
theorem ev_ring {fs : List PyData} : evN call (n + 1) (.tuple [.str "ring", .tuple fs, b]) k s = evN call n b s.envs.length (s.new (ringPut s.envs.length fs (s.env k))) := by
  rw [evN, if_neg (by decide +kernel), if_pos rfl]
  rfl
theorem ev_call : evN call (n + 1) (.tuple [.str "call", a, b]) k s = (evs (evN call n) [a, b] k s).then fun vs s1 => call (vs.getD 0 (.num 0)) (vs.getD 1 (.num 0)) s1 := by
  rw [evN, if_neg (by decide +kernel), if_neg (by decide +kernel)]
  congr 1
theorem ev_op (h : OpW w) : evN call (n + 1) (.tuple [.str w, a, b]) k s = (evs (evN call n) [a, b] k s).then fun vs s1 => reck w (vs.getD 0 (.num 0)) (vs.getD 1 (.num 0)) s1 := by
  have h1 : ¬ w = "fun" := by rcases h with rfl | rfl | rfl | rfl <;> decide +kernel
  have h2 : ¬ w = "ring" := by rcases h with rfl | rfl | rfl | rfl <;> decide +kernel
  have h3 : ¬ w = "call" := by rcases h with rfl | rfl | rfl | rfl <;> decide +kernel
  rw [evN, if_neg h1, if_neg h2]
  congr 1
  funext vs s1
  rw [if_neg h3]
theorem ev_let : evN call (n + 1) (.tuple [.str "let", .str x, a, b]) k s = (evN call n a k s).then fun v s1 => evN call n b s1.envs.length (s1.new (envPut (s1.env k) x v)) := by
  rw [evN, if_pos rfl]
  rfl
theorem ev_if : evN call (n + 1) (.tuple [.str "if", a, b, c]) k s = (evN call n a k s).then fun v s1 => match v with
        | .num i => if i ≠ 0 then evN call n b k s1 else evN call n c k s1
        | _ => .bad .stuck s1 := by
  rw [evN, if_neg (by decide +kernel)]
end
end FW

set_option Elab.async false
set_option linter.all false
set_option maxRecDepth 100000
set_option maxHeartbeats 4000000
/-! Good: what holds of all environments and values. -/
namespace FW
open PySem L2

theorem len_of_sub {α : Type} [DecidableEq α] : ∀ {l p : List α}, l.Nodup → (∀ x ∈ l, x ∈ p) → l.length ≤ p.length
  | [], _, _, _ => Nat.zero_le _
  | a :: r, p, h, s => by
    have ha := s a List.mem_cons_self
    rw [List.nodup_cons] at h
    have q : r.length ≤ (p.erase a).length := len_of_sub h.2 fun x hx => (List.mem_erase_of_ne (fun e => h.1 (by rw [← e]; exact hx))).mpr (s x (List.mem_cons_of_mem _ hx))
    rw [List.length_erase_of_mem ha] at q
    have : 0 < p.length := List.length_pos_of_mem ha
    rw [List.length_cons]
    omega

/-! ### environments -/
theorem envGet_nil {x : Str} : envGet [] x = none := rfl
theorem envPut_keys (e : Env) (x : Str) (v : Val) : (envPut e x v).map (·.1) = if x ∈ e.map (·.1) then e.map (·.1) else e.map (·.1) ++ [x] := by
  unfold envPut
  by_cases h : (e.any fun p => decide (p.1 = x)) = true
  · have hm : x ∈ e.map (·.1) := by
      obtain ⟨p, hp, hx⟩ := List.any_eq_true.mp h
      exact List.mem_map.mpr ⟨p, hp, of_decide_eq_true hx⟩
    rw [if_pos h, if_pos hm, List.map_map]
    apply List.map_congr_left
    intro p _
    show (if p.1 = x then (p.1, v) else p).1 = p.1
    split <;> rfl
  · have hm : ¬ x ∈ e.map (·.1) := fun z => by
      obtain ⟨p, hp, hx⟩ := List.mem_map.mp z
      exact h (List.any_eq_true.mpr ⟨p, hp, decide_eq_true hx⟩)
    rw [if_neg h, if_neg hm, List.map_append]
    rfl
theorem mem_envPut {e : Env} {x : Str} {v : Val} {p : Str × Val} (h : p ∈ envPut e x v) : p ∈ e ∨ p = (x, v) := by
  unfold envPut at h
  split at h
  · obtain ⟨q, hq, e1⟩ := List.mem_map.mp h
    split at e1
    · rename_i hx
      rw [hx] at e1
      exact .inr e1.symm
    · exact .inl (e1 ▸ hq)
  · rcases List.mem_append.mp h with h | h
    · exact .inl h
    · exact .inr (List.mem_singleton.mp h)

inductive GoodV (pool : List Str) (D L : Nat) : Val → Prop where
  | num {i : Int} : i.natAbs < 2 ^ 200 → GoodV pool D L (.num i)
  | blk {w : Str} {vs : List Val} : (∀ v ∈ vs, GoodV pool D L v) → vs.length ≤ 100 → GoodV pool D L (.blk w vs)
  | fn {x : Str} {b : PyData} {k : Nat} : x ∈ pool → Wf pool D b → k < L → GoodV pool D L (.fn x b k)
structure GoodE (pool : List Str) (D L : Nat) (e : Env) : Prop where
  nd : (e.map (·.1)).Nodup
  mem : ∀ p ∈ e, p.1 ∈ pool ∧ GoodV pool D L p.2
structure GoodS (pool : List Str) (D : Nat) (s : MS) : Prop where
  all : ∀ e ∈ s.envs, GoodE pool D s.envs.length e
section
variable {pool : List Str} {D L L' : Nat} {e : Env} {x : Str} {v : Val} {s s' : MS}
theorem GoodV.mono (h : GoodV pool D L v) (l : L ≤ L') : GoodV pool D L' v := by
  induction h with
  | num h => exact .num h
  | blk _ hl ih => exact .blk (fun v hv => ih v hv) hl
  | fn hx hb hk => exact .fn hx hb (Nat.lt_of_lt_of_le hk l)
theorem GoodE.mono (h : GoodE pool D L e) (l : L ≤ L') : GoodE pool D L' e := ⟨h.nd, fun p hp => ⟨(h.mem p hp).1, (h.mem p hp).2.mono l⟩⟩
theorem GoodE.nil : GoodE pool D L [] := ⟨List.nodup_nil, fun p hp => by cases hp⟩
theorem GoodE.put (h : GoodE pool D L e) (hx : x ∈ pool) (hv : GoodV pool D L v) : GoodE pool D L (envPut e x v) := by
  refine ⟨?_, fun p hp => ?_⟩
  · rw [envPut_keys]
    split
    · exact h.nd
    · rename_i hn
      exact List.nodup_append.mpr ⟨h.nd, by simp, fun a ha b hb => by
        rw [List.mem_singleton] at hb
        subst hb
        exact fun z => hn (z ▸ ha)⟩
  · rcases mem_envPut hp with q | q
    · exact h.mem p q
    · subst q
      exact ⟨hx, hv⟩
theorem GoodE.len (h : GoodE pool D L e) : e.length ≤ pool.length := by
  have q := len_of_sub (l := e.map (·.1)) (p := pool) h.nd fun y hy => by
    obtain ⟨p, hp, rfl⟩ := List.mem_map.mp hy
    exact (h.mem p hp).1
  rwa [List.length_map] at q
theorem GoodE.get (h : GoodE pool D L e) (q : envGet e x = some v) : GoodV pool D L v := by
  unfold envGet at q
  cases hf : e.find? (fun p => decide (p.1 = x)) with
  | none =>
    rw [hf] at q
    cases q
  | some p =>
    rw [hf] at q
    cases q
    exact (h.mem p (List.mem_of_find?_eq_some hf)).2
theorem GoodS.env (h : GoodS pool D s) (k : Nat) : GoodE pool D s.envs.length (s.env k) := by
  unfold MS.env
  rw [List.getD_eq_getElem?_getD]
  cases q : s.envs[k]? with
  | none => exact GoodE.nil
  | some e => exact h.all e (List.mem_of_getElem? q)
theorem GoodS.new' {n : Nat} {b : Nat} (h : GoodS pool D s) (he : GoodE pool D (s.envs.length + 1) e) : GoodS pool D ⟨s.envs ++ [e], b⟩ := by
  refine ⟨fun e' h' => ?_⟩
  rw [List.length_append]
  rcases List.mem_append.mp h' with q | q
  · exact (h.all e' q).mono (Nat.le_add_right _ _)
  · rw [List.mem_singleton] at q
    subst q
    exact he
theorem GoodS.begun {b : Nat} (h : GoodS pool D s) : GoodS pool D ⟨s.envs, b⟩ := ⟨h.all⟩

/-- a state that grew -/
structure Grow (s s' : MS) : Prop where
  envs : ∃ t, s'.envs = s.envs ++ t
  beg : s.begun ≤ s'.begun
theorem Grow.refl (s : MS) : Grow s s := ⟨⟨[], (List.append_nil _).symm⟩, Nat.le_refl _⟩
theorem Grow.trans {s s1 s2 : MS} (a : Grow s s1) (b : Grow s1 s2) : Grow s s2 := by
  obtain ⟨⟨t, e⟩, l⟩ := a
  obtain ⟨⟨u, e'⟩, l'⟩ := b
  exact ⟨⟨t ++ u, by rw [e', e, List.append_assoc]⟩, Nat.le_trans l l'⟩
theorem Grow.le (a : Grow s s') : s.envs.length ≤ s'.envs.length := by
  obtain ⟨⟨t, e⟩, _⟩ := a
  rw [e, List.length_append]
  exact Nat.le_add_right _ _
theorem Grow.get (a : Grow s s') {k : Nat} (h : k < s.envs.length) : s'.envs[k]? = s.envs[k]? := by
  obtain ⟨⟨t, e⟩, _⟩ := a
  rw [e, List.getElem?_append_left h]
theorem Grow.env (a : Grow s s') {k : Nat} (h : k < s.envs.length) : s'.env k = s.env k := by
  unfold MS.env
  rw [List.getD_eq_getElem?_getD, List.getD_eq_getElem?_getD, a.get h]
theorem Grow.new (s : MS) (e : Env) {b : Nat} (h : s.begun ≤ b) : Grow s ⟨s.envs ++ [e], b⟩ := ⟨⟨[e], rfl⟩, h⟩

/-- what an outcome keeps -/
def GoodO (pool : List Str) (D : Nat) (s : MS) : Out Val → Prop
  | .ok v s' => GoodS pool D s' ∧ GoodV pool D s'.envs.length v ∧ Grow s s'
  | .bad _ _ => True
def GoodGo (pool : List Str) (D n : Nat) (go : Go) : Prop := ∀ p k s, Wf pool n p → k < s.envs.length → GoodS pool D s → GoodO pool D s (go p k s)
def GoodCall (pool : List Str) (D : Nat) (call : Val → Val → MS → Out Val) : Prop :=
  ∀ f a s, GoodS pool D s → GoodV pool D s.envs.length f → GoodV pool D s.envs.length a → GoodO pool D s (call f a s)

theorem bnd_good {n : Int} (h : GoodS pool D s) : GoodO pool D s (bnd n s) := by
  unfold bnd
  by_cases q : greatest < (if n < 0 then -n else n)
  · rw [if_pos q]
    trivial
  · rw [if_neg q]
    refine ⟨h, .num ?_, Grow.refl _⟩
    have e : greatest = 10 ^ 60 - 1 := rfl
    have z : (10 : Int) ^ 60 < 2 ^ 200 := by decide
    have y : ((2 : Nat) ^ 200 : Nat) = ((2 : Int) ^ 200) := by rfl
    split at q <;> omega
theorem reck_good {w : Str} {a b : Val} (h : GoodS pool D s) : GoodO pool D s (reck w a b s) := by
  unfold reck
  split
  · repeat (first | exact bnd_good h | (refine ⟨h, .num ?_, Grow.refl _⟩; split <;> decide) | (refine ⟨h, .num ?_, Grow.refl _⟩; decide) | split)
  · trivial
theorem two_good {go : Go} {n : Nat} (hg : GoodGo pool D n go) {a b : PyData} {k : Nat} (ha : Wf pool n a) (hb : Wf pool n b) (hk : k < s.envs.length) (hs : GoodS pool D s)
    {f : List Val → MS → Out Val} (hf : ∀ v w s', GoodS pool D s' → GoodV pool D s'.envs.length v → GoodV pool D s'.envs.length w → Grow s s' → GoodO pool D s' (f [v, w] s')) :
    GoodO pool D s ((evs go [a, b] k s).then f) := by
  have g1 := hg a k s ha hk hs
  unfold evs
  cases e1 : go a k s with
  | bad x s1 => trivial
  | ok v s1 =>
    rw [e1] at g1
    obtain ⟨s1g, v1g, gr1⟩ := g1
    have g2 := hg b k s1 hb (Nat.lt_of_lt_of_le hk gr1.le) s1g
    show GoodO pool D s (((evs go [b] k s1).then fun vs s2 => Out.ok (v :: vs) s2).then f)
    unfold evs
    cases e2 : go b k s1 with
    | bad x s2 => trivial
    | ok w s2 =>
      rw [e2] at g2
      obtain ⟨s2g, w2g, gr2⟩ := g2
      show GoodO pool D s (f [v, w] s2)
      have g3 := hf v w s2 s2g (v1g.mono gr2.le) w2g (gr1.trans gr2)
      cases e3 : f [v, w] s2 with
      | bad x s3 => trivial
      | ok z s3 =>
        rw [e3] at g3
        exact ⟨g3.1, g3.2.1, (gr1.trans gr2).trans g3.2.2⟩
theorem ringPut_good {k L : Nat} (hk : k < L) : ∀ (fs : List (Str × Str × PyData)) {e : Env}, GoodE pool D L e → (∀ f ∈ fs, f.1 ∈ pool ∧ f.2.1 ∈ pool) → (∀ f ∈ fs, Wf pool D f.2.2) →
    GoodE pool D L (ringPut k (fs.map fun f => .tuple [.str f.1, .str f.2.1, f.2.2]) e)
  | [], e, he, _, _ => he
  | f :: r, e, he, h1, h2 => ringPut_good hk r (he.put (h1 f List.mem_cons_self).1 (.fn (h1 f List.mem_cons_self).2 (h2 f List.mem_cons_self) hk))
      (fun g hg => h1 g (List.mem_cons_of_mem _ hg)) fun g hg => h2 g (List.mem_cons_of_mem _ hg)
theorem evN_good {call : Val → Val → MS → Out Val} (hc : GoodCall pool D call) : ∀ n, n ≤ D → GoodGo pool D n (evN call n)
  | 0, _ => fun p k s h => by cases h
  | n + 1, hn => fun p k s h hk hs => by
    have ih := evN_good hc n (by omega)
    cases h with
    | int h => exact ⟨hs, .num h, Grow.refl _⟩
    | @word _ w h _ =>
      rw [ev_word]
      split
      · exact ⟨hs, .blk (fun v hv => by cases hv) (by decide), Grow.refl _⟩
      · cases q : envGet (s.env k) w with
        | none => trivial
        | some v => exact ⟨hs, (hs.env k).get q, Grow.refl _⟩
    | fn hx hb =>
      rw [ev_fn]
      exact ⟨hs, .fn hx (hb.mono (by omega)) hk, Grow.refl _⟩
    | call hf ha =>
      rw [ev_call]
      exact two_good ih hf ha hk hs fun v w s' g1 g2 g3 _ => hc v w s' g1 g2 g3
    | op hw ha hb =>
      rw [ev_op hw]
      exact two_good ih ha hb hk hs fun v w s' g1 g2 g3 _ => reck_good g1
    | iff h1 h2 h3 =>
      rw [ev_if]
      have g1 := ih _ k s h1 hk hs
      cases e1 : evN call n _ k s with
      | bad x s1 => trivial
      | ok v s1 =>
        rw [e1] at g1
        obtain ⟨s1g, v1g, gr1⟩ := g1
        have go : ∀ q, Wf pool n q → GoodO pool D s (evN call n q k s1) := fun q hq => by
          have g2 := ih q k s1 hq (Nat.lt_of_lt_of_le hk gr1.le) s1g
          cases e2 : evN call n q k s1 with
          | bad x s2 => trivial
          | ok w s2 =>
            rw [e2] at g2
            exact ⟨g2.1, g2.2.1, gr1.trans g2.2.2⟩
        cases v with
        | num i =>
          show GoodO pool D s (if i ≠ 0 then _ else _)
          split
          · exact go _ h2
          · exact go _ h3
        | blk w vs => trivial
        | fn x b k' => trivial
    | lett hx h1 h2 =>
      rw [ev_let]
      have g1 := ih _ k s h1 hk hs
      cases e1 : evN call n _ k s with
      | bad x s1 => trivial
      | ok v s1 =>
        rw [e1] at g1
        obtain ⟨s1g, v1g, gr1⟩ := g1
        have ge := ((s1g.env k).put hx v1g).mono (Nat.le_add_right s1.envs.length 1)
        have g2 := ih _ s1.envs.length (s1.new (envPut (s1.env k) _ v)) h2 (by
          show s1.envs.length < (s1.envs ++ [_]).length
          rw [List.length_append]
          exact Nat.lt_succ_self _) (GoodS.new' (n := 0) s1g ge)
        show GoodO pool D s (evN call n _ s1.envs.length (s1.new _))
        cases e2 : evN call n _ s1.envs.length (s1.new (envPut (s1.env k) _ v)) with
        | bad x s2 => trivial
        | ok w s2 =>
          rw [e2] at g2
          exact ⟨g2.1, g2.2.1, (gr1.trans (Grow.new s1 _ (Nat.le_refl _))).trans g2.2.2⟩
    | @ring _ fs e h1 h2 hl he =>
      rw [ev_ring]
      have ge := ringPut_good (pool := pool) (D := D) (Nat.lt_succ_self s.envs.length) fs ((hs.env k).mono (Nat.le_add_right s.envs.length 1)) h1 fun f hf => (h2 f hf).mono (by omega)
      have g2 := ih _ s.envs.length (s.new (ringPut s.envs.length _ (s.env k))) he (by
          show s.envs.length < (s.envs ++ [_]).length
          rw [List.length_append]
          exact Nat.lt_succ_self _) (GoodS.new' (n := 0) hs ge)
      cases e2 : evN call n e s.envs.length (s.new (ringPut s.envs.length _ (s.env k))) with
      | bad x s2 => trivial
      | ok w s2 =>
        rw [e2] at g2
        exact ⟨g2.1, g2.2.1, (Grow.new s _ (Nat.le_refl _)).trans g2.2.2⟩
theorem callF_good {most : Int} {go : Option Go} (hg : ∀ g, go = some g → GoodGo pool D D g) : GoodCall pool D (callF most go) := fun f a s hs hf ha => by
  cases hf with
  | num _ => trivial
  | blk _ _ => trivial
  | @fn x b k hx hb hk =>
    show GoodO pool D s (if most ≤ (s.begun : Int) then _ else _)
    split
    · trivial
    · cases go with
      | none => trivial
      | some g =>
        have ge := ((hs.env k).put hx ha).mono (Nat.le_add_right s.envs.length 1)
        have g2 := hg g rfl b s.envs.length ⟨s.envs ++ [envPut (s.env k) x a], s.begun + 1⟩ hb (by
          show s.envs.length < (s.envs ++ [_]).length
          rw [List.length_append]
          exact Nat.lt_succ_self _) (GoodS.new' (n := 0) hs ge)
        show GoodO pool D s (g b s.envs.length ⟨s.envs ++ [envPut (s.env k) x a], s.begun + 1⟩)
        cases e2 : g b s.envs.length ⟨s.envs ++ [envPut (s.env k) x a], s.begun + 1⟩ with
        | bad x s2 => trivial
        | ok w s2 =>
          rw [e2] at g2
          exact ⟨g2.1, g2.2.1, (Grow.new s _ (Nat.le_succ _)).trans g2.2.2⟩
end
theorem EV_good (pool : List Str) (D : Nat) (most : Int) : ∀ u, (∀ n, n ≤ D → GoodGo pool D n (EV D most u n)) ∧ GoodCall pool D (EC D most u)
  | 0 => by
    have hc : GoodCall pool D (EC D most 0) := callF_good (go := none) fun g h => by cases h
    refine ⟨fun n hn => ?_, hc⟩
    rw [EV_eq]
    exact evN_good hc n hn
  | u + 1 => by
    have hc : GoodCall pool D (EC D most (u + 1)) := callF_good (go := some (EV D most u D)) fun g h => by
      cases h
      exact (EV_good pool D most u).1 D (Nat.le_refl _)
    refine ⟨fun n hn => ?_, hc⟩
    rw [EV_eq]
    exact evN_good hc n hn
end FW

set_option Elab.async false
set_option linter.all false
set_option maxRecDepth 100000
set_option maxHeartbeats 4000000
/-! Rel: how values and environments lie in the heap. FR: how a function lies there. -/
namespace FW
open PySem PySem.Spec PyProof.Rows L2

abbrev FRT := Hp → Addr → Str → V → Addr → Prop
mutual
inductive RepV (K : PySem.W.Frag) (FR : FRT) (H : Hp) (m : List Addr) : V → Val → Prop
  | num (i : Int) : RepV K FR H m (.int i) (.num i)
  | blk {a : Addr} {w : Str} {us : List V} {vs : List Val} : SqT K H a (.str w :: us) → RepVs K FR H m us vs → RepV K FR H m (.ref a) (.blk w vs)
  | fn {a d : Addr} {x : Str} {pb : V} {b : PyData} {k : Nat} : FR H a x pb d → Dq K H pb b → m[k]? = some d → RepV K FR H m (.ref a) (.fn x b k)
inductive RepVs (K : PySem.W.Frag) (FR : FRT) (H : Hp) (m : List Addr) : List V → List Val → Prop
  | nil : RepVs K FR H m [] []
  | cons {u : V} {us : List V} {v : Val} {vs : List Val} : RepV K FR H m u v → RepVs K FR H m us vs → RepVs K FR H m (u :: us) (v :: vs)
end
/-- a dict's pairs are an environment's -/
abbrev KVR (K : PySem.W.Frag) (FR : FRT) (H : Hp) (m : List Addr) : List (L2.Key × V) → Env → Prop :=
  Paired fun (kv : L2.Key × V) (p : Str × Val) => kv.1 = Sum.inr p.1 ∧ RepV K FR H m kv.2 p.2
def EnvAt (K : PySem.W.Frag) (FR : FRT) (H : Hp) (m : List Addr) (d : Addr) (e : Env) : Prop := ∃ kvs, H d = some (.dK kvs) ∧ KVR K FR H m kvs e
structure EnvsAt (K : PySem.W.Frag) (FR : FRT) (r : Addr) (H : Hp) (m : List Addr) (es : List Env) : Prop where
  len : m.length = es.length
  at_ : ∀ (k : Nat) (d : Addr), m[k]? = some d → d ≠ r ∧ EnvAt K FR H m d (es.getD k [])

/-- the way functions lie stays with all but r -/
def FRok (K : PySem.W.Frag) (FR : FRT) (r : Addr) : Prop := ∀ (H H' : Hp) (a : Addr) (x : Str) (pb : V) (d : Addr), NoSeq H r → FR H r x pb d = False → Fwd r H H' → FR H a x pb d → FR H' a x pb d
section
variable {K : PySem.W.Frag} {FR : FRT} {r : Addr} {H H' : Hp} {m : List Addr}
/-- what carries from H to H': all but r stays, r is no sequence and no function -/
structure Carry (K : PySem.W.Frag) (FR : FRT) (r : Addr) (H H' : Hp) : Prop where
  ns : NoSeq H r
  fw : Fwd r H H'
  fr : ∀ (a : Addr) (x : Str) (pb : V) (d : Addr), FR H a x pb d → FR H' a x pb d
mutual
theorem repV_carry {m m' : List Addr} (c : Carry K FR r H H') (hm : ∃ t, m' = m ++ t) : ∀ {u : V} {v : Val}, RepV K FR H m u v → RepV K FR H' m' u v
  | _, _, .num i => .num i
  | _, _, .blk h t => .blk (sqT_fwd c.ns c.fw h) (repVs_carry c hm t)
  | _, _, .fn h p q => .fn (c.fr _ _ _ _ h) (dp_fwd c.ns c.fw p) (by
      obtain ⟨t, rfl⟩ := hm
      rw [List.getElem?_append_left (List.getElem?_eq_some_iff.mp q).1]
      exact q)
theorem repVs_carry {m m' : List Addr} (c : Carry K FR r H H') (hm : ∃ t, m' = m ++ t) : ∀ {us : List V} {vs : List Val}, RepVs K FR H m us vs → RepVs K FR H' m' us vs
  | _, _, .nil => .nil
  | _, _, .cons h t => .cons (repV_carry c hm h) (repVs_carry c hm t)
end
theorem kvr_carry {m m' : List Addr} (c : Carry K FR r H H') (hm : ∃ t, m' = m ++ t) : ∀ {kvs : List (L2.Key × V)} {e : Env}, KVR K FR H m kvs e → KVR K FR H' m' kvs e
  | _, _, .nil => .nil
  | _, _, .cons h t => .cons ⟨h.1, repV_carry c hm h.2⟩ (kvr_carry c hm t)
theorem envsAt_carry {es : List Env} (c : Carry K FR r H H') (h : EnvsAt K FR r H m es) : EnvsAt K FR r H' m es :=
  ⟨h.len, fun k d q => by
    obtain ⟨n, kvs, e, p⟩ := h.at_ k d q
    exact ⟨n, kvs, c.fw _ _ e n, kvr_carry c ⟨[], (List.append_nil _).symm⟩ p⟩⟩
/-- where another object than r changes -/
theorem envsAt_carryP {p : Addr} {es : List Env} (c : Carry K FR p H H') (hm : ∀ d ∈ m, d ≠ p) (h : EnvsAt K FR r H m es) : EnvsAt K FR r H' m es :=
  ⟨h.len, fun k d q => by
    obtain ⟨n, kvs, e, z⟩ := h.at_ k d q
    exact ⟨n, kvs, c.fw _ _ e (hm d (List.mem_of_getElem? q)), kvr_carry c ⟨[], (List.append_nil _).symm⟩ z⟩⟩
/-- the new environments' dicts are new -/
def Ext (H : Hp) (m m' : List Addr) : Prop := ∃ t, m' = m ++ t ∧ ∀ d ∈ t, H d = none
theorem Ext.refl : Ext H m m := ⟨[], (List.append_nil _).symm, fun d h => by cases h⟩
theorem Ext.one {d : Addr} (h : H d = none) : Ext H m (m ++ [d]) := ⟨[d], rfl, fun e he => by
  rw [List.mem_singleton] at he
  rw [he]
  exact h⟩
theorem Ext.ex {m' : List Addr} (h : Ext H m m') : ∃ t, m' = m ++ t := ⟨h.choose, h.choose_spec.1⟩
theorem Ext.trans {m1 m2 : List Addr} (a : Ext H m m1) (b : Ext H' m1 m2) (f : ∀ p, H' p = none → H p = none) : Ext H m m2 := by
  obtain ⟨t, rfl, h⟩ := a
  obtain ⟨u, rfl, h'⟩ := b
  refine ⟨t ++ u, List.append_assoc _ _ _, fun d hd => ?_⟩
  rcases List.mem_append.mp hd with q | q
  · exact h d q
  · exact f d (h' d q)
/-- one environment more -/
theorem EnvsAt.snoc {es : List Env} {e : Env} {d : Addr} (h : EnvsAt K FR r H m es) (hd : d ≠ r) (he : EnvAt K FR H (m ++ [d]) d e) (c : Carry K FR r H H) : EnvsAt K FR r H (m ++ [d]) (es ++ [e]) := by
  refine ⟨by rw [List.length_append, List.length_append, h.len]; rfl, fun k d' q => ?_⟩
  by_cases hk : k < m.length
  · rw [List.getElem?_append_left hk] at q
    obtain ⟨n, kvs, z, p⟩ := h.at_ k d' q
    refine ⟨n, kvs, z, ?_⟩
    rw [List.getD_eq_getElem?_getD, List.getElem?_append_left (by rw [← h.len]; exact hk), ← List.getD_eq_getElem?_getD]
    exact kvr_carry c ⟨[d], rfl⟩ p
  · have e1 : k = m.length := by
      have := (List.getElem?_eq_some_iff.mp q).1
      rw [List.length_append, List.length_singleton] at this
      omega
    subst e1
    rw [List.getElem?_append_right (Nat.le_refl _), Nat.sub_self] at q
    cases q
    refine ⟨hd, ?_⟩
    rw [List.getD_eq_getElem?_getD, h.len, List.getElem?_append_right (Nat.le_refl _), Nat.sub_self]
    exact he
theorem kvr_len {kvs : List (L2.Key × V)} {e : Env} (h : KVR K FR H m kvs e) : kvs.length = e.length := Paired.length h
theorem kvr_get : ∀ {kvs : List (L2.Key × V)} {e : Env} {x : Str}, KVR K FR H m kvs e → (valV kvs (Sum.inr x) = none ∧ envGet e x = none) ∨ ∃ u v, valV kvs (Sum.inr x) = some u ∧ envGet e x = some v ∧ RepV K FR H m u v
  | _, _, x, .nil => .inl ⟨rfl, rfl⟩
  | kv :: kvs, p :: e, x, .cons h t => by
    obtain ⟨hk, hv⟩ := h
    by_cases hx : p.1 = x
    · refine .inr ⟨kv.2, p.2, valV_pos (by rw [hk, hx]), ?_, hv⟩
      unfold envGet
      rw [List.find?_cons, decide_eq_true hx]
      rfl
    · have e1 : valV (kv :: kvs) (Sum.inr x) = valV kvs (Sum.inr x) := valV_neg (by
        rw [hk]
        exact fun z => hx (Sum.inr.inj z))
      have e2 : envGet (p :: e) x = envGet e x := by
        unfold envGet
        rw [List.find?_cons, decide_eq_false hx]
      rw [e1, e2]
      exact kvr_get t
theorem kvr_map {x : Str} {u : V} {v : Val} (hv : RepV K FR H m u v) : ∀ {kvs : List (L2.Key × V)} {e : Env}, KVR K FR H m kvs e →
    KVR K FR H m (kvs.map fun kv => if kv.1 = Sum.inr x then (kv.1, u) else kv) (e.map fun p => if p.1 = x then (p.1, v) else p)
  | _, _, .nil => .nil
  | kv :: kvs, p :: e, .cons h t => by
    refine .cons ?_ (kvr_map hv t)
    obtain ⟨hk, hp⟩ := h
    dsimp only
    by_cases hx : p.1 = x
    · rw [if_pos hx, if_pos (show kv.1 = Sum.inr x by rw [hk, hx])]
      exact ⟨hk, hv⟩
    · rw [if_neg hx, if_neg (show ¬ kv.1 = Sum.inr x by
        rw [hk]
        exact fun z => hx (Sum.inr.inj z))]
      exact ⟨hk, hp⟩
theorem kvr_any {x : Str} : ∀ {kvs : List (L2.Key × V)} {e : Env}, KVR K FR H m kvs e → (kvs.any fun kv => decide (kv.1 = Sum.inr x)) = (e.any fun p => decide (p.1 = x))
  | _, _, .nil => rfl
  | kv :: kvs, p :: e, .cons h t => by
    rw [List.any_cons, List.any_cons, kvr_any t, h.1]
    congr 1
    exact key_rr p.1 x
theorem kvr_snoc {kv : L2.Key × V} {p : Str × Val} (h1 : kv.1 = Sum.inr p.1 ∧ RepV K FR H m kv.2 p.2) : ∀ {kvs : List (L2.Key × V)} {e : Env}, KVR K FR H m kvs e → KVR K FR H m (kvs ++ [kv]) (e ++ [p])
  | _, _, .nil => .cons h1 .nil
  | _, _, .cons h t => .cons h (kvr_snoc h1 t)
theorem kvr_put {x : Str} {u : V} {v : Val} {kvs : List (L2.Key × V)} {e : Env} (h : KVR K FR H m kvs e) (hv : RepV K FR H m u v) : KVR K FR H m (putK kvs (Sum.inr x) u) (envPut e x v) := by
  unfold putK envPut
  rw [kvr_any h]
  split
  · exact kvr_map hv h
  · exact kvr_snoc ⟨rfl, hv⟩ h
end
end FW

set_option Elab.async false
set_option linter.all false
set_option maxRecDepth 100000
set_option maxHeartbeats 4000000
/-! R1: the program's running: the text, what stands at the top, the small defs. -/
namespace FW
open PySem PySem.Spec PyProof.Rows L2

def top (i : Nat) : Stmt := PySem.Challenge.pw_facework_k57_rings_run.main.body.getD i (.Pass ⟨0, 0, 0, 0⟩)

/-- the addresses of the classes -/
structure Ad where
  CF : Addr
  CR : Addr
  CS : Addr
  CG : Addr
  CL : Addr
  CD : Addr
def Ad.exc (A : Ad) : Fault → Addr
  | .stuck => A.CS
  | .great => A.CG
  | .long => A.CL
  | .deep => A.CD
structure RT (K : PySem.W.Frag) (mg : Str → Option Value) (A : Ad) : Prop where
  clF : Cls K A.CF
  clR : Cls K A.CR
  ha : PySem.W.findIn K (.ref A.CF) "__class__" = some (some (.builtin "object.__class__"))
  hn : PySem.W.specialIn K (.builtin "object.__class__") "__get__" = some (some (.builtin "getset_descriptor.__get__"))
  htk : PySem.W.takesIn K (.builtin "object.__class__") = some true
  hm : PySem.W.mroIn K A.CF (.type "object") = some true
  ne : A.CF ≠ A.CR
  iIF : PySem.W.kitOne K (.type "int") (.ref A.CF) = some false
  iTF : PySem.W.kitOne K (.type "tuple") (.ref A.CF) = some false
  iFI : PySem.W.kitOne K (.ref A.CF) (.type "int") = some false
  n_name : NoAttr K A.CF "name"
  n_phrase : NoAttr K A.CF "phrase"
  n_names : NoAttr K A.CF "names"
  n_spots : NoAttr K A.CR "spots"
  n_most : NoAttr K A.CR "most"
  n_begun : NoAttr K A.CR "begun"
  n_under : NoAttr K A.CR "under"
  g_Function : mg "Function" = some (.ref A.CF)
  g_DEEPEST : ∃ t, mg "DEEPEST" = some (.int 10 t)
  g_GREATEST : ∃ t, mg "GREATEST" = some (.int greatest t)
  x_Stuck : XCls K mg "Stuck" A.CS
  x_TooGreat : XCls K mg "TooGreat" A.CG
  x_TooLong : XCls K mg "TooLong" A.CL
  x_TooDeep : XCls K mg "TooDeep" A.CD
  z_isinstance : mg "isinstance" = none
  z_int : mg "int" = none
  z_str : mg "str" = none
  z_tuple : mg "tuple" = none
  z_abs : mg "abs" = none
  z_dict : mg "dict" = none
  z_max : mg "max" = none
  z_enumerate : mg "enumerate" = none

/-- a function of the runner's -/
def fF (x : Str) (pb : V) (d : Addr) : List (Str × V) := [("name", .str x), ("phrase", pb), ("names", .ref d)]
def FRr (A : Ad) : FRT := fun H a x pb d => ∃ dx, H a = some (.ins A.CF dx (fF x pb d))

section
variable {P : Program} {w : World} {K : PySem.W.Frag} {mg : Str → Option Value} {base : Heap} {A : Ad} {f : Addr} {fd : FuncData}

theorem tyF {H : Hp} {a dx : Addr} {fs : List (Str × V)} (T : RT K mg A) (h : H a = some (.ins A.CF dx fs)) : TyX K H (.ref a) (.ref A.CF) := .base (.ins h T.clF T.ha T.hn T.htk T.hm)
/-- whether a value is a number -/
def isNum : Val → Bool
  | .num _ => true
  | _ => false
theorem rep_int {H : Hp} {m : List Addr} {v : V} {z : Val} (T : RT K mg A) (h : RepV K (FRr A) H m v z) : ∃ t, TyX K H v t ∧ PySem.W.kitOne K t (.type "int") = some (isNum z) := by
  cases h with
  | num i => exact ⟨_, .base (.int i), kit_ty (r := true) (by decide +kernel)⟩
  | blk h _ => exact ⟨_, tyT h, kit_ty (r := false) (by decide +kernel)⟩
  | fn h _ _ =>
    obtain ⟨dx, h⟩ := h
    exact ⟨_, tyF T h, T.iFI⟩

/-! ### is_number -/
abbrev s_is_number : Stmt := top 11
def N_is_number : List Str := ["value"]
theorem sc_is_number : FnScope N_is_number ["value"] (defScope s_is_number) := ⟨rfl, rfl, rfl, by decide +kernel, rfl, by decide +kernel, by decide +kernel⟩
def spIsNum (K : PySem.W.Frag) : Sp := fun vs H Q _ => ∃ x t b, vs = [x] ∧ TyX K H x t ∧ PySem.W.kitOne K t (.type "int") = some b ∧ Q (.bl b) H
theorem ok_is_number (F : Fun K "is_number" "is_number" s_is_number f fd) (T : RT K mg A) : FnN P w K mg base CX0 1 f fd ["value"] (spIsNum K) := by
  refine okN0 F sc_is_number (fun vs H Q E h => ?_) (fun cdv A outer s H vs Q E hr h => ?_)
  · obtain ⟨x, t, b, rfl, _⟩ := h
    rfl
  obtain ⟨x, t, b, rfl, ty, k, q⟩ := h
  refine ⟨_, (pss_one (ps_ret (pe_callB call_isi (by rfl) T.z_isinstance (by decide +kernel) (pa_cons (pv 0) (pa_cons (pe_tyN (n := "int") (by rfl) T.z_int (by decide +kernel)) pa_nil))))), ?_⟩
  exact ⟨_, rfl, x, .ty "int", t, _, b, rfl, .ty _, ty, k, q⟩

/-! ### is_tag -/
abbrev s_is_tag : Stmt := top 12
def N_is_tag : List Str := ["word"]
theorem sc_is_tag : FnScope N_is_tag ["word"] (defScope s_is_tag) := ⟨rfl, rfl, rfl, by decide +kernel, rfl, by decide +kernel, by decide +kernel⟩
def spIsTag : Sp := fun vs H Q _ => ∃ w, vs = [.str w] ∧ w.cps.toList ≠ [] ∧ w.length ≤ sizeLine ∧ Q (.bl (isTag w)) H
theorem ok_is_tag (F : Fun K "is_tag" "is_tag" s_is_tag f fd) : FnN P w K mg base CX0 1 f fd ["word"] spIsTag := by
  refine okN0 F sc_is_tag (fun vs H Q E h => ?_) (fun cdv A outer s H vs Q E hr h => ?_)
  · obtain ⟨x, rfl, _⟩ := h
    rfl
  obtain ⟨x, rfl, ne, hl, q⟩ := h
  refine ⟨_, (pss_one (ps_ret (pe_and (pe_cmpR op_notIn_sign pe_str (pv 0) (by rfl)) (pe_one (pe_cmpR op_in_sign (pe_ix ix_str (pv 0) pe_int (fun _ _ => rfl)) pe_str (by rfl)))))), ?_⟩
  refine ⟨_, rfl, 46, x, rfl, rfl, _, rfl, ?_⟩
  cases hx : x.cps.toList with
  | nil => exact absurd hx ne
  | cons c r =>
    have et : isTag x = ((!decide (46 ∈ x.cps.toList)) && decide (c ∈ ("ABCDEFGHIJKLMNOPQRSTUVWXYZ" : Str).cps.toList)) := by
      unfold isTag
      rw [hx]
    rw [et, hx] at q
    by_cases hd : 46 ∈ c :: r
    · rw [decide_eq_true hd] at q ⊢
      exact iteF q
    · rw [decide_eq_false hd] at q ⊢
      refine iteT ?_
      exact ⟨_, rfl, x, 0, c, rfl, rfl, hl, by rw [hx]; exact atI_nat (j := 0) rfl, c, _, rfl, rfl, q⟩

/-! ### bounded -/
abbrev s_bounded : Stmt := top 13
def N_bounded : List Str := ["number"]
theorem sc_bounded : FnScope N_bounded ["number"] (defScope s_bounded) := ⟨rfl, rfl, rfl, by decide +kernel, rfl, by decide +kernel, by decide +kernel⟩
def spBounded (A : Ad) : Sp := fun vs H Q E => ∃ n, vs = [.int n] ∧ if greatest < (if n < 0 then -n else n) then E (.ref A.CG) none H else Q (.int n) H
theorem ok_bounded (F : Fun K "bounded" "bounded" s_bounded f fd) (T : RT K mg A) : FnN P w K mg base (L2N.CX P w) 1 f fd ["number"] (spBounded A) := by
  refine okN F sc_bounded (fun vs H Q E h => ?_) (fun cdv A outer s H vs Q E hr h => ?_)
  · obtain ⟨x, rfl, _⟩ := h
    rfl
  obtain ⟨n, rfl, q⟩ := h
  obtain ⟨t, gG⟩ := T.g_GREATEST
  refine ⟨_, (pss_cons (ps_if (pt_cmpR op_gt (pe_callB call_abs (by rfl) T.z_abs (by decide +kernel) (pa_cons (pv 0) pa_nil)) (pe_gI rfl gG) (nomark _))
    (pss_one (L2N.ps_raise rfl (L2N.takes_of rfl rfl rfl rfl) (mkE T.x_TooGreat rfl)))
    pss_nil)
  (pss_one (ps_ret (pv 0)))), ?_⟩
  refine ⟨_, rfl, n, rfl, _, _, rfl, rfl, _, rfl, ?_⟩
  by_cases h : greatest < (if n < 0 then -n else n)
  · rw [if_pos h] at q
    rw [decide_eq_true h]
    exact iteT q
  · rw [if_neg h] at q
    rw [decide_eq_false h]
    exact iteF ⟨_, rfl, q⟩

/-! ### reckoned -/
abbrev s_reckoned : Stmt := top 14
def N_reckoned : List Str := ["word", "one", "other"]
theorem sc_reckoned : FnScope N_reckoned ["word", "one", "other"] (defScope s_reckoned) := ⟨rfl, rfl, rfl, by decide +kernel, rfl, by decide +kernel, by decide +kernel⟩
def GNum (z : Val) : Prop := ∀ i, z = .num i → i.natAbs < 2 ^ 200
def spReck (K : PySem.W.Frag) (A : Ad) : Sp := fun vs H Q E => ∃ (wd : Str) (a b : V) (x y : Val) (m : List Addr) (s : MS), vs = [.str wd, a, b] ∧ OpW wd ∧ RepV K (FRr A) H m a x ∧ RepV K (FRr A) H m b y ∧ GNum x ∧ GNum y ∧
  match reck wd x y s with
  | .ok v _ => ∀ u, (∃ i, u = .int i ∧ v = .num i) → Q u H
  | .bad g _ => E (.ref (A.exc g)) none H
theorem ok_reckoned (F : Fun K "reckoned" "reckoned" s_reckoned f fd) (T : RT K mg A) (c_is_number : CalN P w K mg base CX0 1 "is_number" ["value"] (spIsNum K)) (c_bounded : CalN P w K mg base (L2N.CX P w) 1 "bounded" ["number"] (spBounded A)) :
    FnN P w K mg base (L2N.CX P w) 2 f fd ["word", "one", "other"] (spReck K A) := by
  refine okN F sc_reckoned (fun vs H Q E h => ?_) (fun cdv A' outer s H vs Q E hr h => ?_)
  · obtain ⟨_, _, _, _, _, _, _, rfl, _⟩ := h
    rfl
  obtain ⟨wd, a, b, x, y, m, st, rfl, hw, ra, rb, ga, gb, q⟩ := h
  have tk := L2N.takes_of (X := cxOf (L2N.CX P w) P w K mg base N_reckoned "reckoned" (defScope s_reckoned) f cdv A' outer s H E) (E := E) rfl rfl rfl rfl
  have pX := pX_of tk
  refine ⟨_, (pss_cons (ps_if (PW.pt (pw_or (pt_not (pt_val (pe_cN c_is_number hr (by rfl) pass0 (pa_cons (pv 1) pa_nil)))) (pw_or1 (pt_not (pt_val (pe_cN c_is_number hr (by rfl) pass0 (pa_cons (pv 2) pa_nil)))))))
    (pss_one (L2N.ps_raise rfl tk (mkE T.x_Stuck rfl)))
    pss_nil)
  (pss_cons (ps_if (pt_cmpR op_eq (pv 0) pe_str (nomark _))
    (pss_one (ps_ret (pe_cN c_bounded hr (by rfl) pX (pa_cons (pe_op op_add (pv 1) (pv 2)) pa_nil))))
    pss_nil)
  (pss_cons (ps_if (pt_cmpR op_eq (pv 0) pe_str (nomark _))
    (pss_one (ps_ret (pe_cN c_bounded hr (by rfl) pX (pa_cons (pe_op op_sub (pv 1) (pv 2)) pa_nil))))
    pss_nil)
  (pss_cons (ps_if (pt_cmpR op_eq (pv 0) pe_str (nomark _))
    (pss_one (ps_ret (pe_cN c_bounded hr (by rfl) pX (pa_cons (pe_op op_mulW (pv 1) (pv 2)) pa_nil))))
    pss_nil)
  (pss_one (ps_ret (pe_callTy call_int1 (by rfl) T.z_int (by decide +kernel) (pa_cons (pe_cmpR op_lt (pv 1) (pv 2) (nomark _)) pa_nil)))))))), ?_⟩
  obtain ⟨ta, tya, ka⟩ := rep_int T ra
  obtain ⟨tb, tyb, kb⟩ := rep_int T rb
  refine ⟨_, rfl, a, ta, _, rfl, tya, ka, _, rfl, ?_⟩
  cases x with
  | num i =>
    have ea : a = .int i := by
      cases ra
      rfl
    subst ea
    refine iteF ⟨_, rfl, b, tb, _, rfl, tyb, kb, _, rfl, ?_⟩
    cases y with
    | num j =>
      have eb : b = .int j := by
        cases rb
        rfl
      subst eb
      refine iteF ⟨_, rfl, rfl, _, rfl, ?_⟩
      have bd : ∀ n : Int, (match bnd n st with
          | .ok v _ => ∀ u, (∃ i, u = .int i ∧ v = .num i) → Q u H
          | .bad g _ => E (.ref (A.exc g)) none H) → spBounded A [.int n] H Q E := fun n z => by
        refine ⟨n, rfl, ?_⟩
        unfold bnd at z
        by_cases h : greatest < (if n < 0 then -n else n)
        · rw [if_pos h] at z ⊢
          exact z
        · rw [if_neg h] at z ⊢
          exact z _ ⟨n, rfl, rfl⟩
      rcases hw with rfl | rfl | rfl | rfl
      · exact ⟨_, rfl, _, rfl, _, _, rfl, rfl, bd _ q⟩
      · exact ⟨_, rfl, rfl, _, rfl, _, rfl, _, rfl, _, _, rfl, rfl, bd _ q⟩
      · refine ⟨_, rfl, rfl, _, rfl, _, rfl, rfl, _, rfl, _, rfl, _, rfl, _, _, rfl, rfl, ?_, bd _ q⟩
        exact wide_mul (ga i rfl) (gb j rfl) (by decide) (by decide) (by decide)
      · refine ⟨_, rfl, rfl, _, rfl, _, rfl, rfl, _, rfl, _, rfl, _, rfl, _, _, rfl, rfl, .inr ⟨_, rfl, ?_⟩⟩
        have q' : ∀ u, (∃ k, u = V.int k ∧ Val.num (if i < j then 1 else 0) = Val.num k) → Q u H := q
        refine q' _ ⟨_, rfl, ?_⟩
        by_cases h : i < j
        · rw [if_pos h, decide_eq_true h]
          rfl
        · rw [if_neg h, decide_eq_false h]
          rfl
    | blk w' vs =>
      exact iteT q
    | fn x' b' k' =>
      exact iteT q
  | blk w' vs =>
    exact iteT q
  | fn x' b' k' =>
    exact iteT q
end
end FW

set_option Elab.async false
set_option linter.all false
set_option maxRecDepth 100000
set_option maxHeartbeats 4000000
/-! R2: the runner: a call, a word. -/
namespace FW
open PySem PySem.Spec PyProof.Rows L2

def rF (sp : V) (most b u : Int) : List (Str × V) := [("spots", sp), ("most", .int most), ("begun", .int b), ("under", .int u)]
structure RunAt (K : PySem.W.Frag) (A : Ad) (most : Int) (H : Hp) (r : Addr) (m : List Addr) (u : Nat) (s : MS) : Prop where
  ob : ∃ dx sp, H r = some (.ins A.CR dx (rF sp most s.begun (10 - (u : Int))))
  ev : EnvsAt K (FRr A) r H m s.envs
def Ret (K : PySem.W.Frag) (A : Ad) (most : Int) (H : Hp) (r : Addr) (m : List Addr) (u : Nat) (o : Out Val) (Q : VK) (E : XK) : Prop :=
  match o with
  | .ok v s' => ∀ (H' : Hp) (m' : List Addr) (x : V), Fwd r H H' → RunAt K A most H' r m' u s' → Ext H m m' → RepV K (FRr A) H' m' x v → Q x H'
  | .bad g _ => ∀ H' : Hp, Fwd r H H' → E (.ref (A.exc g)) none H'
/-- a state with one of its environments -/
structure Pre (K : PySem.W.Frag) (A : Ad) (pool : List Str) (D : Nat) (most : Int) (H : Hp) (r : Addr) (m : List Addr) (u : Nat) (s : MS) (d : Addr) (k : Nat) : Prop where
  run : RunAt K A most H r m u s
  good : GoodS pool D s
  ix : m[k]? = some d
def spForm (K : PySem.W.Frag) (A : Ad) (pool : List Str) (D : Nat) (most : Int) (form : PyData → Prop) (u n : Nat) : Sp := fun vs H Q E =>
  ∃ (r d : Addr) (pv : V) (p : PyData) (m : List Addr) (k : Nat) (s : MS), vs = [.ref r, pv, .ref d] ∧ Pre K A pool D most H r m u s d k ∧ Dq K H pv p ∧ Wf pool n p ∧ form p ∧
    Ret K A most H r m u (EV D most u n p k s) Q E
abbrev spVal (K : PySem.W.Frag) (A : Ad) (pool : List Str) (D : Nat) (most : Int) (u n : Nat) : Sp := spForm K A pool D most (fun _ => True) u n
def Head (h : Str) (p : PyData) : Prop := ∃ ps, p = .tuple (.str h :: ps)
def spWord (K : PySem.W.Frag) (A : Ad) (pool : List Str) (D : Nat) (most : Int) (u : Nat) : Sp := fun vs H Q E =>
  ∃ (r d : Addr) (wd : Str) (m : List Addr) (k : Nat) (s : MS), vs = [.ref r, .str wd, .ref d] ∧ Pre K A pool D most H r m u s d k ∧ wd.cps.toList ≠ [] ∧ wd.length ≤ 1000 ∧
    Ret K A most H r m u (if isTag wd = true then .ok (.blk wd []) s else match envGet (s.env k) wd with
      | some v => .ok v s
      | none => .bad .stuck s) Q E
def spCalled (K : PySem.W.Frag) (A : Ad) (pool : List Str) (D : Nat) (most : Int) (u : Nat) : Sp := fun vs H Q E =>
  ∃ (r : Addr) (fv av : V) (f a : Val) (m : List Addr) (s : MS), vs = [.ref r, fv, av] ∧ RunAt K A most H r m u s ∧ GoodS pool D s ∧ RepV K (FRr A) H m fv f ∧ RepV K (FRr A) H m av a ∧
    GoodV pool D s.envs.length f ∧ GoodV pool D s.envs.length a ∧ Ret K A most H r m u (EC D most u f a s) Q E
def spFnI (A : Ad) : Sp := fun vs H Q _ => ∃ (a dx : Addr) (x : Str) (pb : V) (d : Addr), vs = [.ref a, .str x, pb, .ref d] ∧ H a = some (.ins A.CF dx []) ∧ Q .non (upd H a (.ins A.CF dx (fF x pb d)))

section
variable {P : Program} {w : World} {K : PySem.W.Frag} {mg : Str → Option Value} {base : Heap} {A : Ad} {f : Addr} {fd : FuncData} {pool : List Str} {D : Nat} {most : Int}
section
variable {H H' : Hp} {r d : Addr} {m : List Addr} {u k : Nat} {s : MS}
theorem RunAt.ns (R : RunAt K A most H r m u s) : NoSeq H r := by
  obtain ⟨⟨dx, sp, h⟩, _⟩ := R
  exact ⟨_, h, by intro; simp, by intro _ _; simp⟩
theorem RunAt.carry (T : RT K mg A) (R : RunAt K A most H r m u s) (f : Fwd r H H') : Carry K (FRr A) r H H' := by
  refine ⟨R.ns, f, fun a x pb d h => ?_⟩
  obtain ⟨⟨dx, sp, h0⟩, _⟩ := R
  obtain ⟨dy, h⟩ := h
  refine ⟨dy, f _ _ h fun e => ?_⟩
  rw [e, h0] at h
  injection h with h
  injection h with h _
  exact T.ne h.symm
theorem carryR (T : RT K mg A) {dx : Addr} {fs : List (Str × V)} (h : H r = some (.ins A.CR dx fs)) (f : Fwd r H H') : Carry K (FRr A) r H H' := by
  refine ⟨⟨_, h, by intro; simp, by intro _ _; simp⟩, f, fun a x pb d q => ?_⟩
  obtain ⟨dy, q⟩ := q
  refine ⟨dy, f _ _ q fun e => ?_⟩
  rw [e, h] at q
  injection q with q
  injection q with q _
  exact T.ne q.symm
/-- new objects do not touch the state -/
theorem RunAt.fwd (T : RT K mg A) (R : RunAt K A most H r m u s) (f : Fwd r H H') (e : H' r = H r) : RunAt K A most H' r m u s :=
  ⟨by rw [e]; exact R.ob, envsAt_carry (R.carry T f) R.ev⟩
theorem Pre.env (h : Pre K A pool D most H r m u s d k) : d ≠ r ∧ ∃ kvs, H d = some (.dK kvs) ∧ KVR K (FRr A) H m kvs (s.env k) := h.run.ev.at_ k d h.ix
theorem Pre.lt (h : Pre K A pool D most H r m u s d k) : k < s.envs.length := by
  rw [← h.run.ev.len]
  exact (List.getElem?_eq_some_iff.mp h.ix).1
theorem Pre.size (h : Pre K A pool D most H r m u s d k) (hp : pool.length ≤ 1000) {kvs : List (L2.Key × V)} (q : KVR K (FRr A) H m kvs (s.env k)) : kvs.length < sizeLine := by
  rw [kvr_len q]
  exact small1000 (Nat.le_trans (h.good.env k).len hp)
theorem new_ne {p : Addr} {o : HO} (h : H r = some o) (hp : H p = none) : r ≠ p := ne_of_none h hp
end

/-! ### Function.__init__ -/
abbrev s_Function___init__ : Stmt := inClass (top 9) 0
def N_Function___init__ : List Str := ["self", "name", "phrase", "names"]
theorem sc_Function___init__ : FnScope N_Function___init__ ["self", "name", "phrase", "names"] (defScope s_Function___init__) := ⟨rfl, rfl, rfl, by decide +kernel, rfl, by decide +kernel, by decide +kernel⟩
theorem ok_Function___init__ (F : Fun K "__init__" "Function.__init__" s_Function___init__ f fd) (T : RT K mg A) : FnOk P w K mg base CX0 1 f fd ["self", "name", "phrase", "names"] (spFnI A) := by
  refine F.ok sc_Function___init__ (fun vs H Q E h => ?_) (fun cdv A' outer s H vs Q E hr h => ?_)
  · obtain ⟨_, _, _, _, _, rfl, _⟩ := h
    rfl
  obtain ⟨a, dx, x, pb, d, rfl, h, q⟩ := h
  refine ⟨_, (pss_cons (ps_fld (pv 0) (pv 1) rfl) (pss_cons (ps_fld (pv 0) (pv 2) rfl) (pss_one (ps_fld (pv 0) (pv 3) rfl)))), ?_⟩
  refine ⟨_, rfl, _, rfl, a, _, dx, _, rfl, h, T.clF, T.n_name, by decide, _, rfl, _, rfl, a, _, dx, _, rfl, upd_same, T.clF, T.n_phrase, (by show 1 < 1000; decide), _, rfl, _, rfl, a, _, dx, _, rfl, upd_same, T.clF, T.n_names, (by show 2 < 1000; decide), ?_⟩
  rw [upd_upd, upd_upd]
  exact q

/-! ### Runner.word_value -/
abbrev s_Runner_word_value : Stmt := inClass (top 15) 3
def N_Runner_word_value : List Str := ["self", "word", "names"]
theorem sc_Runner_word_value : FnScope N_Runner_word_value ["self", "word", "names"] (defScope s_Runner_word_value) := ⟨rfl, rfl, rfl, by decide +kernel, rfl, by decide +kernel, by decide +kernel⟩
theorem ok_word_value {u : Nat} (F : Fun K "word_value" "Runner.word_value" s_Runner_word_value f fd) (T : RT K mg A) (c_is_tag : CalN P w K mg base CX0 1 "is_tag" ["word"] spIsTag) :
    FnN P w K mg base (L2N.CX P w) 2 f fd ["self", "word", "names"] (spWord K A pool D most u) := by
  refine okN F sc_Runner_word_value (fun vs H Q E h => ?_) (fun cdv A' outer s H vs Q E hr h => ?_)
  · obtain ⟨_, _, _, _, _, _, rfl, _⟩ := h
    rfl
  obtain ⟨r, d, wd, m, k, st, rfl, pre, ne, hl, q⟩ := h
  have tk := L2N.takes_of (X := cxOf (L2N.CX P w) P w K mg base N_Runner_word_value "Runner.word_value" (defScope s_Runner_word_value) f cdv A' outer s H E) (E := E) rfl rfl rfl rfl
  have pX := pX_of tk
  have hu := hr.hu
  refine ⟨_, (pss_cons (ps_if (pt_val (pe_cN c_is_tag hr (by rfl) pass0 (pa_cons (pv 1) pa_nil)))
    (pss_one (ps_ret (pe_tup (pa_cons (pv 1) pa_nil))))
    pss_nil)
  (pss_cons (ps_if (pt_cmp (pc_dnotin hu (pv 1) (pv 2)))
    (pss_one (L2N.ps_raise rfl tk (mkE T.x_Stuck rfl)))
    pss_nil)
  (pss_one (ps_ret (pe_dget hu (pv 2) (pv 1) (fun _ _ => rfl)))))), ?_⟩
  obtain ⟨nd, kvs, hd, rel⟩ := pre.env
  obtain ⟨⟨dx, sp, hr0⟩, ev⟩ := id pre.run
  refine ⟨_, rfl, wd, rfl, ne, Nat.le_of_lt (small1000 hl), _, rfl, ?_⟩
  cases ht : isTag wd with
  | true =>
    rw [ht, if_pos rfl] at q
    refine iteT ⟨_, rfl, (by show 1 ≤ sizeLine; decide), fun p hp => ?_⟩
    have nrp := new_ne hr0 hp
    exact q _ m _ (Fwd.new hp) (pre.run.fwd T (Fwd.new hp) (upd_ne nrp)) Ext.refl (.blk (.inl (.inl upd_same)) .nil)
  | false =>
    rw [ht, if_neg Bool.false_ne_true] at q
    refine iteF ?_
    have hg : DGet H d (kV (Sum.inr wd)) (valV kvs (Sum.inr wd)) := DGet.k hd
    refine ⟨_, rfl, _, rfl, d, _, rfl, hg, _, rfl, ?_⟩
    rcases kvr_get (x := wd) rel with ⟨e1, e2⟩ | ⟨z, v, e1, e2, rv⟩
    · rw [e1]
      rw [e2] at q
      exact q H (Fwd.refl r H)
    · rw [e1]
      rw [e2] at q
      rw [e1] at hg
      refine ⟨_, rfl, _, rfl, d, z, rfl, hg, ?_⟩
      exact q H m z (Fwd.refl r H) pre.run Ext.refl rv

/-! ### Runner.called -/
abbrev s_Runner_called : Stmt := inClass (top 15) 2
def N_Runner_called : List Str := ["self", "function", "thing", "names", "found"]
theorem sc_Runner_called : FnScope N_Runner_called ["self", "function", "thing"] (defScope s_Runner_called) := ⟨rfl, rfl, rfl, by decide +kernel, rfl, by decide +kernel, by decide +kernel⟩
theorem ok_called {u lv : Nat} {spV : Sp} (F : Fun K "called" "Runner.called" s_Runner_called f fd) (T : RT K mg A) (hp : pool.length ≤ 1000) (hu10 : u ≤ 10)
    (m_value : MetN P w K mg base (L2N.CX P w) lv A.CR "value" ["self", "phrase", "names"] spV) (hv : ∀ u', u = u' + 1 → spV = spVal K A pool D most u' D) :
    FnN P w K mg base (L2N.CX P w) (lv + 1) f fd ["self", "function", "thing"] (spCalled K A pool D most u) := by
  refine okN F sc_Runner_called (fun vs H Q E h => ?_) (fun cdv A' outer s H vs Q E hr h => ?_)
  · obtain ⟨_, _, _, _, _, _, _, rfl, _⟩ := h
    rfl
  obtain ⟨r, fv, av, fz, az, m, st, rfl, run, good, rf, ra, gf, ga, q⟩ := h
  have tk := L2N.takes_of (X := cxOf (L2N.CX P w) P w K mg base N_Runner_called "Runner.called" (defScope s_Runner_called) f cdv A' outer s H E) (E := E) rfl rfl rfl rfl
  have pX := pX_of tk
  have hu := hr.hu
  obtain ⟨tD, g_DEEPEST⟩ := T.g_DEEPEST
  refine ⟨_, (pss_cons (ps_if (pt_not (pt_val (pe_callB call_isi (by rfl) T.z_isinstance (by decide +kernel) (pa_cons (pv 1) (pa_cons (pe_gR rfl T.g_Function) pa_nil)))))
    (pss_one (L2N.ps_raise rfl tk (mkE T.x_Stuck rfl)))
    pss_nil)
  (pss_cons (ps_if (pt_cmpR op_ge (pe_fld (pv 0) rfl) (pe_fld (pv 0) rfl) (nomark _))
    (pss_one (L2N.ps_raise rfl tk (mkE T.x_TooLong rfl)))
    pss_nil)
  (pss_cons (ps_if (pt_cmpR op_ge (pe_fld (pv 0) rfl) (pe_gI rfl g_DEEPEST) (nomark _))
    (pss_one (L2N.ps_raise rfl tk (mkE T.x_TooDeep rfl)))
    pss_nil)
  (pss_cons (ps_fldaug (pv 0) pe_int in_add)
  (pss_cons (ps_fldaug (pv 0) pe_int in_add)
  (pss_cons (ps_set (i := 3) sc_Runner_called.nd rfl (Or.inl rfl) (pe_callTy call_dictD (by rfl) T.z_dict (by decide +kernel) (pa_cons (pe_fld (pv 1) rfl) pa_nil)))
  (pss_cons (ps_dput hu (pv 3) (pe_fld (pv 1) rfl) (pv 2) rfl)
  (pss_cons (ps_set (i := 4) sc_Runner_called.nd rfl (Or.inl rfl) (pe_mN m_value (pv 0) hr pX (pa_cons (pe_fld (pv 1) rfl) (pa_cons (pv 3) pa_nil))))
  (pss_cons (ps_fldaug (pv 0) pe_int in_sub)
  (pss_one (ps_ret (pv 4)))))))))))), ?_⟩
  obtain ⟨⟨dx, sp, hr0⟩, ev⟩ := id run
  have stuck : (∀ x b k, fz ≠ .fn x b k) → E (.ref A.CS) none H := fun hn => by
    have e : EC D most u fz az st = .bad .stuck st := by
      cases u <;> (cases fz <;> first | rfl | exact absurd rfl (hn _ _ _))
    rw [e] at q
    exact q H (Fwd.refl r H)
  cases rf with
  | num i => exact ⟨_, rfl, _, _, _, _, _, rfl, .own _, .base (.int i), T.iIF, _, rfl, iteTr rfl (stuck (fun _ _ _ z => by cases z))⟩
  | blk h _ => exact ⟨_, rfl, _, _, _, _, _, rfl, .own _, tyT h, T.iTF, _, rfl, iteTr rfl (stuck (fun _ _ _ z => by cases z))⟩
  | @fn a d x pb b k hfr hpb hmk =>
    obtain ⟨dy, hf⟩ := hfr
    have nar : a ≠ r := ne_of hf hr0 fun z => by
      injection z with z _
      exact T.ne z
    have ndr : d ≠ r := (ev.at_ k d hmk).1
    refine ⟨_, rfl, _, _, _, _, _, rfl, .own _, tyF T hf, by unfold PySem.W.kitOne; rw [if_pos (beq_self_eq_true _)], _, rfl, iteFr rfl ?_⟩
    refine ⟨_, rfl, r, _, dx, _, _, rfl, hr0, T.clR, T.n_begun, rfl, _, rfl, r, _, dx, _, _, rfl, hr0, T.clR, T.n_most, rfl, _, _, rfl, rfl, _, rfl, ?_⟩
    have eC : EC D most u (.fn x b k) az st = if most ≤ (st.begun : Int) then .bad .long st else
        match (match u with | 0 => none | u' + 1 => some (EV D most u' D) : Option Go) with
        | none => .bad .deep st
        | some g => g b st.envs.length { envs := st.envs ++ [envPut (st.env k) x az], begun := st.begun + 1 } := by cases u <;> rfl
    rw [eC] at q
    by_cases hlong : most ≤ (st.begun : Int)
    · rw [if_pos hlong] at q
      rw [decide_eq_true (show most ≤ ((st.begun : Nat) : Int) from hlong)]
      exact iteT (q H (Fwd.refl r H))
    · rw [if_neg hlong] at q
      rw [decide_eq_false (show ¬ most ≤ ((st.begun : Nat) : Int) from hlong)]
      refine iteF ⟨_, rfl, r, _, dx, _, _, rfl, hr0, T.clR, T.n_under, rfl, _, _, rfl, rfl, _, rfl, ?_⟩
      cases u with
      | zero =>
        rw [decide_eq_true (show (10 : Int) ≤ 10 - ((0 : Nat) : Int) by decide)]
        exact iteT (q H (Fwd.refl r H))
      | succ u' =>
        have hvv := hv u' rfl
        subst hvv
        rw [decide_eq_false (show ¬ (10 : Int) ≤ 10 - ((u' + 1 : Nat) : Int) by omega)]
        refine iteF ?_
        -- self.begun += 1; self.under += 1
        refine ⟨_, rfl, r, _, dx, _, _, rfl, hr0, T.clR, T.n_begun, rfl, _, _, rfl, rfl, dx, _, hr0, (by show 4 < 1000; decide), ?_⟩
        refine ⟨_, rfl, r, _, dx, _, _, rfl, upd_same, T.clR, T.n_under, rfl, _, _, rfl, rfl, dx, _, upd_same, (by show 4 < 1000; decide), ?_⟩
        rw [upd_upd]
        -- names = dict(function.names)
        obtain ⟨_, kvs, hd, rel⟩ := ev.at_ k d hmk
        have hlen : kvs.length < sizeLine := by
          rw [kvr_len rel]
          exact small1000 (Nat.le_trans (good.env k).len hp)
        generalize hH1 : upd H r (HO.ins A.CR dx (putF "under" (V.int (10 - ((u' + 1 : Nat) : Int) + 1)) (putF "begun" (V.int ((st.begun : Int) + 1)) (rF sp most st.begun (10 - ((u' + 1 : Nat) : Int)))))) = H1
        have f1 : Fwd r H H1 := by
          rw [← hH1]
          exact Fwd.own
        have hr1 : H1 r = some (.ins A.CR dx (rF sp most ((st.begun + 1 : Nat) : Int) (10 - (u' : Int)))) := by
          rw [← hH1, upd_same]
          have e1 : (10 - ((u' + 1 : Nat) : Int) + 1) = 10 - (u' : Int) := by omega
          have e2 : ((st.begun : Int) + 1) = ((st.begun + 1 : Nat) : Int) := by omega
          rw [e1, e2]
          rfl
        refine ⟨_, rfl, a, _, dy, _, _, rfl, f1 _ _ hf nar, T.clF, T.n_names, rfl, d, kvs, rfl, .inl (f1 _ _ hd ndr), fun p hpn => ?_⟩
        have nrp : r ≠ p := ne_of_none hr1 hpn
        have nap : a ≠ p := ne_of_none (f1 _ _ hf nar) hpn
        -- names[function.name] = thing
        refine ⟨_, rfl, _, rfl, _, rfl, a, _, dy, _, _, rfl, (by rw [upd_ne nap]; exact f1 _ _ hf nar), T.clF, T.n_name, rfl, p, _, rfl, DPut.k (k := Sum.inr x) upd_same hlen, ?_⟩
        rw [upd_upd]
        have f2 : Fwd r H (upd H1 p (.dK (putK kvs (Sum.inr x) av))) := f1.trans (Fwd.new hpn)
        have cr : Carry K (FRr A) r H (upd H1 p (.dK (putK kvs (Sum.inr x) av))) := run.carry T f2
        have cr2 : Carry K (FRr A) r (upd H1 p (.dK (putK kvs (Sum.inr x) av))) (upd H1 p (.dK (putK kvs (Sum.inr x) av))) := by
          refine ⟨?_, Fwd.refl _ _, fun _ _ _ _ h => h⟩
          exact ⟨_, (by rw [upd_ne nrp]; exact hr1), by intro; simp, by intro _ _; simp⟩
        have env2 : EnvsAt K (FRr A) r (upd H1 p (.dK (putK kvs (Sum.inr x) av))) (m ++ [p]) (st.envs ++ [envPut (st.env k) x az]) := by
          refine (envsAt_carry cr ev).snoc nrp.symm ⟨_, upd_same, ?_⟩ cr2
          exact kvr_put (kvr_carry cr ⟨[p], rfl⟩ rel) (repV_carry cr ⟨[p], rfl⟩ ra)
        have run2 : RunAt K A most (upd H1 p (.dK (putK kvs (Sum.inr x) av))) r (m ++ [p]) u' ⟨st.envs ++ [envPut (st.env k) x az], st.begun + 1⟩ :=
          ⟨⟨dx, sp, by rw [upd_ne nrp]; exact hr1⟩, env2⟩
        generalize upd H1 p (.dK (putK kvs (Sum.inr x) av)) = H2 at f2 cr env2 run2
        obtain ⟨gx, gb, gk⟩ : x ∈ pool ∧ Wf pool D b ∧ k < st.envs.length := by
          cases gf with
          | fn h1 h2 h3 => exact ⟨h1, h2, h3⟩
        have good2 : GoodS pool D ⟨st.envs ++ [envPut (st.env k) x az], st.begun + 1⟩ :=
          GoodS.new' (n := 0) good (((good.env k).put gx ga).mono (Nat.le_add_right _ 1))
        have q' : Ret K A most H r m (u' + 1) (EV D most u' D b st.envs.length ⟨st.envs ++ [envPut (st.env k) x az], st.begun + 1⟩) Q E := q
        have pre2 : Pre K A pool D most H2 r (m ++ [p]) u' ⟨st.envs ++ [envPut (st.env k) x az], st.begun + 1⟩ p st.envs.length := by
          refine ⟨run2, good2, ?_⟩
          rw [← ev.len, List.getElem?_append_right (Nat.le_refl _), Nat.sub_self]
          rfl
        obtain ⟨⟨dz, sz, hz⟩, _⟩ := id run2
        -- found = self.value(function.phrase, names)
        refine ⟨_, rfl, r, dz, _, rfl, hz, rfl, _, rfl, a, _, dy, _, _, rfl, f2 _ _ hf nar, T.clF, T.n_phrase, rfl, _, rfl, ?_⟩
        refine ⟨r, p, pb, b, m ++ [p], st.envs.length, _, rfl, pre2, dp_fwd run.ns f2 hpb, gb, trivial, ?_⟩
        cases e : EV D most u' D b st.envs.length ⟨st.envs ++ [envPut (st.env k) x az], st.begun + 1⟩ with
        | bad g s' =>
          rw [e] at q'
          exact fun H3 f3 => q' H3 (f2.trans f3)
        | ok v s' =>
          rw [e] at q'
          intro H3 m3 z f3 run3 hm3 rep3
          obtain ⟨⟨d3, s3, h3⟩, ev3⟩ := id run3
          -- self.under -= 1; return found
          refine ⟨_, rfl, r, _, d3, _, _, rfl, h3, T.clR, T.n_under, rfl, _, _, rfl, rfl, d3, _, h3, (by show 4 < 1000; decide), ?_⟩
          refine ⟨_, rfl, ?_⟩
          have f4 : Fwd r H3 (upd H3 r (.ins A.CR d3 (putF "under" (V.int (10 - (u' : Int) - 1)) (rF s3 most s'.begun (10 - (u' : Int)))))) := Fwd.own
          have c4 := run3.carry T f4
          have hpH : H p = Option.none := f1.non ⟨_, hr1⟩ hpn
          refine q' _ m3 z (f2.trans (f3.trans f4)) ⟨⟨d3, s3, ?_⟩, envsAt_carry c4 ev3⟩ ((Ext.one hpH).trans hm3 fun y hy => f2.non ⟨_, hz⟩ hy) (repV_carry c4 ⟨[], (List.append_nil _).symm⟩ rep3)
          rw [upd_same]
          have e1 : (10 - (u' : Int) - 1) = 10 - ((u' + 1 : Nat) : Int) := by omega
          rw [e1]
          rfl
end
end FW

set_option Elab.async false
set_option linter.all false
set_option maxRecDepth 100000
set_option maxHeartbeats 4000000
/-! R3: the runner: let, ring, if, and which of them. -/
namespace FW
open PySem PySem.Spec PyProof.Rows L2

section
variable {pool : List Str} {n : Nat} {p : PyData}
theorem wf_let (h : Wf pool (n + 1) p) (q : Head "let" p) : ∃ x a b, p = .tuple [.str "let", .str x, a, b] ∧ x ∈ pool ∧ Wf pool n a ∧ Wf pool n b := by
  obtain ⟨ps, rfl⟩ := q
  generalize e : (PyData.tuple (.str "let" :: ps)) = p' at h
  cases h with
  | int _ => cases e
  | word _ _ => cases e
  | fn _ _ => exact absurd (show ("let" : Str) = "fun" by injection e with e; injection e with e _; injection e) (by decide +kernel)
  | call _ _ => exact absurd (show ("let" : Str) = "call" by injection e with e; injection e with e _; injection e) (by decide +kernel)
  | @op _ w _ _ hw _ _ =>
    have e1 : ("let" : Str) = w := by injection e with e; injection e with e _; injection e
    subst e1
    rcases hw with z | z | z | z <;> exact absurd z (by decide +kernel)
  | iff _ _ _ => exact absurd (show ("let" : Str) = "if" by injection e with e; injection e with e _; injection e) (by decide +kernel)
  | @lett _ x a b hx ha hb => exact ⟨x, a, b, rfl, hx, ha, hb⟩
  | ring _ _ _ _ => exact absurd (show ("let" : Str) = "ring" by injection e with e; injection e with e _; injection e) (by decide +kernel)
theorem wf_ring (h : Wf pool (n + 1) p) (q : Head "ring" p) : ∃ (fs : List (Str × Str × PyData)) (b : PyData), p = .tuple [.str "ring", .tuple (fs.map fun f => .tuple [.str f.1, .str f.2.1, f.2.2]), b] ∧
    (∀ f ∈ fs, f.1 ∈ pool ∧ f.2.1 ∈ pool) ∧ (∀ f ∈ fs, Wf pool n f.2.2) ∧ fs.length ≤ 100 ∧ Wf pool n b := by
  obtain ⟨ps, rfl⟩ := q
  generalize e : (PyData.tuple (.str "ring" :: ps)) = p' at h
  cases h with
  | int _ => cases e
  | word _ _ => cases e
  | fn _ _ => exact absurd (show ("ring" : Str) = "fun" by injection e with e; injection e with e _; injection e) (by decide +kernel)
  | call _ _ => exact absurd (show ("ring" : Str) = "call" by injection e with e; injection e with e _; injection e) (by decide +kernel)
  | @op _ w _ _ hw _ _ =>
    have e1 : ("ring" : Str) = w := by injection e with e; injection e with e _; injection e
    subst e1
    rcases hw with z | z | z | z <;> exact absurd z (by decide +kernel)
  | iff _ _ _ => exact absurd (show ("ring" : Str) = "if" by injection e with e; injection e with e _; injection e) (by decide +kernel)
  | lett _ _ _ => exact absurd (show ("ring" : Str) = "let" by injection e with e; injection e with e _; injection e) (by decide +kernel)
  | @ring _ fs b h1 h2 hl hb => exact ⟨fs, b, rfl, h1, h2, hl, hb⟩
theorem wf_if (h : Wf pool (n + 1) p) (q : Head "if" p) : ∃ c a b, p = .tuple [.str "if", c, a, b] ∧ Wf pool n c ∧ Wf pool n a ∧ Wf pool n b := by
  obtain ⟨ps, rfl⟩ := q
  generalize e : (PyData.tuple (.str "if" :: ps)) = p' at h
  cases h with
  | int _ => cases e
  | word _ _ => cases e
  | fn _ _ => exact absurd (show ("if" : Str) = "fun" by injection e with e; injection e with e _; injection e) (by decide +kernel)
  | call _ _ => exact absurd (show ("if" : Str) = "call" by injection e with e; injection e with e _; injection e) (by decide +kernel)
  | @op _ w _ _ hw _ _ =>
    have e1 : ("if" : Str) = w := by injection e with e; injection e with e _; injection e
    subst e1
    rcases hw with z | z | z | z <;> exact absurd z (by decide +kernel)
  | @iff _ c a b h1 h2 h3 => exact ⟨c, a, b, rfl, h1, h2, h3⟩
  | lett _ _ _ => exact absurd (show ("if" : Str) = "let" by injection e with e; injection e with e _; injection e) (by decide +kernel)
  | ring _ _ _ _ => exact absurd (show ("if" : Str) = "ring" by injection e with e; injection e with e _; injection e) (by decide +kernel)
end
section
variable {K : PySem.W.Frag} {H : Hp} {v : V} {a b c d : PyData}
theorem dp_tup3 (h : Dq K H v (.tuple [a, b, c])) : ∃ t x y z, v = .ref t ∧ SqT K H t [x, y, z] ∧ Dq K H x a ∧ Dq K H y b ∧ Dq K H z c := by
  obtain ⟨t, xs, rfl, hs, hd⟩ := dp_tup h
  cases hd with
  | cons h1 r =>
    cases r with
    | cons h2 r =>
      cases r with
      | cons h3 r =>
        cases r
        exact ⟨t, _, _, _, rfl, hs, h1, h2, h3⟩
theorem dp_tup4 (h : Dq K H v (.tuple [a, b, c, d])) : ∃ t x y z u, v = .ref t ∧ SqT K H t [x, y, z, u] ∧ Dq K H x a ∧ Dq K H y b ∧ Dq K H z c ∧ Dq K H u d := by
  obtain ⟨t, xs, rfl, hs, hd⟩ := dp_tup h
  cases hd with
  | cons h1 r =>
    cases r with
    | cons h2 r =>
      cases r with
      | cons h3 r =>
        cases r with
        | cons h4 r =>
          cases r
          exact ⟨t, _, _, _, _, rfl, hs, h1, h2, h3, h4⟩
end

section
variable {P : Program} {w : World} {K : PySem.W.Frag} {mg : Str → Option Value} {base : Heap} {A : Ad} {f : Addr} {fd : FuncData} {pool : List Str} {D : Nat} {most : Int}
section
variable {H H' : Hp} {r d : Addr} {m : List Addr} {u k n : Nat} {s s' : MS}
theorem Pre.fwd (T : RT K mg A) (h : Pre K A pool D most H r m u s d k) (f : Fwd r H H') (e : H' r = H r) : Pre K A pool D most H' r m u s d k := ⟨h.run.fwd T f e, h.good, h.ix⟩
/-- behind a phrase: the state that it left -/
theorem Pre.then (h : Pre K A pool D most H r m u s d k) (hn : n ≤ D) {p : PyData} (hw : Wf pool n p) {v : Val} (e : EV D most u n p k s = .ok v s') {m' : List Addr} (hm : Ext H m m') (R : RunAt K A most H' r m' u s') :
    Pre K A pool D most H' r m' u s' d k ∧ GoodV pool D s'.envs.length v ∧ s'.env k = s.env k := by
  have g := (EV_good pool D most u).1 n hn p k s hw h.lt h.good
  rw [e] at g
  obtain ⟨g1, g2, g3⟩ := g
  refine ⟨⟨R, g1, ?_⟩, g2, g3.env h.lt⟩
  obtain ⟨t, rfl, _⟩ := hm
  rw [List.getElem?_append_left (List.getElem?_eq_some_iff.mp h.ix).1]
  exact h.ix
/-- with one environment more -/
theorem Pre.snoc (T : RT K mg A) (h : Pre K A pool D most H r m u s d k) {e : Env} {p : Addr} (hp : p ≠ r) (he : EnvAt K (FRr A) H (m ++ [p]) p e) (g : GoodE pool D (s.envs.length + 1) e) :
    Pre K A pool D most H r (m ++ [p]) u (s.new e) p s.envs.length := by
  have c : Carry K (FRr A) r H H := h.run.carry T (Fwd.refl r H)
  refine ⟨⟨h.run.ob, h.run.ev.snoc hp he c⟩, GoodS.new' (n := 0) h.good g, ?_⟩
  rw [← h.run.ev.len, List.getElem?_append_right (Nat.le_refl _), Nat.sub_self]
  rfl
theorem Ret.imp {m1 : List Addr} {o : Out Val} {Q : VK} {E : XK} {H1 : Hp} (q : Ret K A most H r m u o Q E) (f : Fwd r H H1) (hm : Ext H m m1) (ho : ∃ o, H1 r = some o) : Ret K A most H1 r m1 u o Q E := by
  cases o with
  | ok v s' =>
    intro H' m' x f' R hm' rep
    exact q H' _ x (f.trans f') R (hm.trans hm' fun y hy => f.non ho hy) rep
  | bad g s' => exact fun H' f' => q H' (f.trans f')
theorem RunAt.mem (R : RunAt K A most H r m u s) {d : Addr} (h : d ∈ m) : d ≠ r ∧ ∃ kvs, H d = some (.dK kvs) := by
  obtain ⟨k, hk⟩ := List.getElem?_of_mem h
  obtain ⟨n, kvs, hd, _⟩ := R.ev.at_ k d hk
  exact ⟨n, kvs, hd⟩
/-- another dict than the environments' changes -/
theorem carryP {p : Addr} {kvs kvs' : List (L2.Key × V)} (h : H p = some (.dK kvs)) : Carry K (FRr A) p H (upd H p (.dK kvs')) := by
  refine ⟨⟨_, h, by intro; simp, by intro _ _; simp⟩, Fwd.own, fun a x pb d q => ?_⟩
  obtain ⟨dx, q⟩ := q
  refine ⟨dx, ?_⟩
  rw [upd_ne (ne_of q h (by intro z; cases z))]
  exact q
theorem RunAt.dict {p : Addr} {kvs kvs' : List (L2.Key × V)} (R : RunAt K A most H r m u s) (h : H p = some (.dK kvs)) (n : r ≠ p) (hm : p ∉ m) : RunAt K A most (upd H p (.dK kvs')) r m u s := by
  refine ⟨by rw [upd_ne n]; exact R.ob, envsAt_carryP (carryP h) (fun d hd z => hm (z ▸ hd)) R.ev⟩
end

/-! ### Runner.let_value -/
abbrev s_Runner_let_value : Stmt := inClass (top 15) 4
def N_Runner_let_value : List Str := ["self", "phrase", "names", "inner"]
theorem sc_Runner_let_value : FnScope N_Runner_let_value ["self", "phrase", "names"] (defScope s_Runner_let_value) := ⟨rfl, rfl, rfl, by decide +kernel, rfl, by decide +kernel, by decide +kernel⟩
theorem ok_let_value {u n lv : Nat} (F : Fun K "let_value" "Runner.let_value" s_Runner_let_value f fd) (T : RT K mg A) (hp : pool.length ≤ 1000) (hn : n + 1 ≤ D)
    (m_value : MetN P w K mg base (L2N.CX P w) lv A.CR "value" ["self", "phrase", "names"] (spVal K A pool D most u n)) :
    FnN P w K mg base (L2N.CX P w) (lv + 1) f fd ["self", "phrase", "names"] (spForm K A pool D most (Head "let") u (n + 1)) := by
  refine okN F sc_Runner_let_value (fun vs H Q E h => ?_) (fun cdv A' outer s H vs Q E hr h => ?_)
  · obtain ⟨_, _, _, _, _, _, _, rfl, _⟩ := h
    rfl
  obtain ⟨r, d, phv, ph, m, k, st, rfl, pre, hdp, hwf, hform, q⟩ := h
  have tk := L2N.takes_of (X := cxOf (L2N.CX P w) P w K mg base N_Runner_let_value "Runner.let_value" (defScope s_Runner_let_value) f cdv A' outer s H E) (E := E) rfl rfl rfl rfl
  have pX := pX_of tk
  have hu := hr.hu
  refine ⟨_, (pss_cons (ps_set (i := 3) sc_Runner_let_value.nd rfl (Or.inl rfl) (pe_callTy call_dictD (by rfl) T.z_dict (by decide +kernel) (pa_cons (pv 2) pa_nil)))
  (pss_cons (ps_dput hu (pv 3) (pe_ix ix_tup (pv 1) pe_int (fun _ _ => rfl)) (pe_mN m_value (pv 0) hr pX (pa_cons (pe_ix ix_tup (pv 1) pe_int (fun _ _ => rfl)) (pa_cons (pv 2) pa_nil))) rfl)
  (pss_one (ps_ret (pe_mN m_value (pv 0) hr pX (pa_cons (pe_ix ix_tup (pv 1) pe_int (fun _ _ => rfl)) (pa_cons (pv 3) pa_nil))))))), ?_⟩
  obtain ⟨x, a, b, rfl, hx, ha, hb⟩ := wf_let hwf hform
  obtain ⟨t, x0, x1, x2, x3, rfl, ht, h0, h1, h2, h3⟩ := dp_tup4 hdp
  have e1 := dp_str h1
  subst e1
  obtain ⟨ndr, kvs, hd, rel⟩ := pre.env
  have hlen := pre.size hp rel
  obtain ⟨⟨dx, sp, hr0⟩, ev⟩ := id pre.run
  -- inner = dict(names)
  refine ⟨_, rfl, d, kvs, rfl, .inl hd, fun p hpn => ?_⟩
  have nrp : r ≠ p := ne_of_none hr0 hpn
  have f1 : Fwd r H (upd H p (.dK kvs)) := Fwd.new hpn
  have pre1 := pre.fwd T f1 (upd_ne nrp)
  have hp1 : (upd H p (.dK kvs)) p = some (.dK kvs) := upd_same
  generalize upd H p (.dK kvs) = H1 at f1 pre1 hp1
  have ns := pre.run.ns
  obtain ⟨⟨dx1, sp1, hr1⟩, _⟩ := id pre1.run
  -- self.value(phrase[2], names)
  refine ⟨_, rfl, r, dx1, _, rfl, hr1, rfl, _, rfl, t, _, _, _, rfl, rfl, sqT_fwd ns f1 ht, at_of (j := 2) rfl rfl, _, rfl, ?_⟩
  refine ⟨r, d, x2, a, m, k, st, rfl, pre1, dp_fwd ns f1 h2, ha, trivial, ?_⟩
  rw [EV_eq, ev_let, ← EV_eq] at q
  cases e : EV D most u n a k st with
  | bad g s1 =>
    rw [e] at q
    exact fun H2 f2 => q H2 (f1.trans f2)
  | ok v s1 =>
    rw [e] at q
    intro H2 m2 z f2 run2 hm2 rep2
    have q : Ret K A most H r m u (EV D most u n b s1.envs.length (s1.new (envPut (s1.env k) x v))) Q E := q
    obtain ⟨pre2, gv, ek⟩ := pre1.then (by omega) ha e hm2 run2
    have f12 := f1.trans f2
    have hp2 := f2 _ _ hp1 nrp.symm
    have pm2 : p ∉ m2 := fun z => by
      obtain ⟨t2, rfl, ht2⟩ := hm2
      rcases List.mem_append.mp z with z | z
      · obtain ⟨_, kv, hk⟩ := pre.run.mem z
        rw [hpn] at hk
        cases hk
      · have := ht2 p z
        rw [hp1] at this
        cases this
    -- inner[phrase[1]] = ..
    refine ⟨_, rfl, _, rfl, t, _, _, _, rfl, rfl, sqT_fwd ns f12 ht, at_of (j := 1) rfl rfl, p, _, rfl, DPut.k (k := Sum.inr x) hp2 hlen, ?_⟩
    have f3 : Fwd r H (upd H2 p (.dK (putK kvs (Sum.inr x) z))) := f12.late hpn
    have pre3 : Pre K A pool D most (upd H2 p (.dK (putK kvs (Sum.inr x) z))) r m2 u s1 d k := ⟨run2.dict hp2 nrp pm2, pre2.good, pre2.ix⟩
    have cp : Carry K (FRr A) p H2 (upd H2 p (.dK (putK kvs (Sum.inr x) z))) := carryP hp2
    have c12 := pre.run.carry T f12
    have em2 : Ext H m m2 := (Ext.refl (H := H) (m := m)).trans hm2 fun y hy => f1.non ⟨_, hr1⟩ hy
    have rel3 : KVR K (FRr A) (upd H2 p (.dK (putK kvs (Sum.inr x) z))) (m2 ++ [p]) (putK kvs (Sum.inr x) z) (envPut (s1.env k) x v) := by
      rw [ek]
      exact kvr_put (kvr_carry cp ⟨[p], rfl⟩ (kvr_carry c12 em2.ex rel)) (repV_carry cp ⟨[p], rfl⟩ rep2)
    have pre4 := pre3.snoc T nrp.symm ⟨_, upd_same, rel3⟩ (((pre2.good.env k).put hx gv).mono (Nat.le_add_right _ 1))
    generalize upd H2 p (.dK (putK kvs (Sum.inr x) z)) = H3 at f3 pre3 cp rel3 pre4
    obtain ⟨⟨dx3, sp3, hr3⟩, _⟩ := id pre4.run
    -- return self.value(phrase[3], inner)
    refine ⟨_, rfl, r, dx3, _, rfl, hr3, rfl, _, rfl, t, _, _, _, rfl, rfl, sqT_fwd ns f3 ht, at_of (j := 3) rfl rfl, _, rfl, ?_⟩
    refine ⟨r, p, x3, b, m2 ++ [p], _, _, rfl, pre4, dp_fwd ns f3 h3, hb, trivial, ?_⟩
    exact q.imp f3 (em2.trans (Ext.one hpn) fun y hy => hy) ⟨_, hr3⟩
end
end FW

set_option Elab.async false
set_option linter.all false
set_option maxRecDepth 100000
set_option maxHeartbeats 4000000
/-! R4: the runner: ring, if, and which of them. -/
namespace FW
open PySem PySem.Spec PyProof.Rows L2

section
variable {P : Program} {w : World} {K : PySem.W.Frag} {mg : Str → Option Value} {base : Heap} {A : Ad} {f : Addr} {fd : FuncData} {pool : List Str} {D : Nat} {most : Int}

/-! ### Runner.if_value -/
abbrev s_Runner_if_value : Stmt := inClass (top 15) 7
def N_Runner_if_value : List Str := ["self", "phrase", "names", "first"]
theorem sc_Runner_if_value : FnScope N_Runner_if_value ["self", "phrase", "names"] (defScope s_Runner_if_value) := ⟨rfl, rfl, rfl, by decide +kernel, rfl, by decide +kernel, by decide +kernel⟩
theorem ok_if_value {u n lv : Nat} (F : Fun K "if_value" "Runner.if_value" s_Runner_if_value f fd) (T : RT K mg A) (hp : pool.length ≤ 1000) (hn : n + 1 ≤ D) (hlv : 1 ≤ lv)
    (c_is_number : CalN P w K mg base CX0 1 "is_number" ["value"] (spIsNum K))
    (m_value : MetN P w K mg base (L2N.CX P w) lv A.CR "value" ["self", "phrase", "names"] (spVal K A pool D most u n)) :
    FnN P w K mg base (L2N.CX P w) (lv + 1) f fd ["self", "phrase", "names"] (spForm K A pool D most (Head "if") u (n + 1)) := by
  refine okN F sc_Runner_if_value (fun vs H Q E h => ?_) (fun cdv A' outer s H vs Q E hr h => ?_)
  · obtain ⟨_, _, _, _, _, _, _, rfl, _⟩ := h
    rfl
  obtain ⟨r, d, phv, ph, m, k, st, rfl, pre, hdp, hwf, hform, q⟩ := h
  have tk := L2N.takes_of (X := cxOf (L2N.CX P w) P w K mg base N_Runner_if_value "Runner.if_value" (defScope s_Runner_if_value) f cdv A' outer s H E) (E := E) rfl rfl rfl rfl
  have pX := pX_of tk
  have hu := hr.hu
  refine ⟨_, (pss_cons (ps_set (i := 3) sc_Runner_if_value.nd rfl (Or.inl rfl) (pe_mN m_value (pv 0) hr pX (pa_cons (pe_ix ix_tup (pv 1) pe_int (fun _ _ => rfl)) (pa_cons (pv 2) pa_nil))))
  (pss_cons (ps_if (pt_not (pt_val (pe_cN c_is_number hr (by rfl) pass0 (pa_cons (pv 3) pa_nil))))
    (pss_one (L2N.ps_raise rfl tk (mkE T.x_Stuck rfl)))
    pss_nil)
  (pss_cons (ps_if (pt_cmpR op_ne (pv 3) pe_int (nomark _))
    (pss_one (ps_ret (pe_mN m_value (pv 0) hr pX (pa_cons (pe_ix ix_tup (pv 1) pe_int (fun _ _ => rfl)) (pa_cons (pv 2) pa_nil)))))
    pss_nil)
  (pss_one (ps_ret (pe_mN m_value (pv 0) hr pX (pa_cons (pe_ix ix_tup (pv 1) pe_int (fun _ _ => rfl)) (pa_cons (pv 2) pa_nil)))))))), ?_⟩
  obtain ⟨c, a, b, rfl, hc, ha, hb⟩ := wf_if hwf hform
  obtain ⟨t, x0, x1, x2, x3, rfl, ht, h0, h1, h2, h3⟩ := dp_tup4 hdp
  obtain ⟨⟨dx, sp, hr0⟩, ev⟩ := id pre.run
  have ns := pre.run.ns
  refine ⟨_, rfl, r, dx, _, rfl, hr0, rfl, _, rfl, t, _, _, _, rfl, rfl, ht, at_of (j := 1) rfl rfl, _, rfl, ?_⟩
  refine ⟨r, d, x1, c, m, k, st, rfl, pre, h1, hc, trivial, ?_⟩
  rw [EV_eq, ev_if, ← EV_eq] at q
  cases e : EV D most u n c k st with
  | bad g s1 =>
    rw [e] at q
    exact q
  | ok v s1 =>
    rw [e] at q
    intro H2 m2 z f2 run2 hm2 rep2
    obtain ⟨pre2, gv, ek⟩ := pre.then (by omega) hc e hm2 run2
    obtain ⟨tz, tyz, kz⟩ := rep_int T rep2
    obtain ⟨⟨dx2, sp2, hr2⟩, _⟩ := id run2
    refine ⟨_, rfl, z, tz, _, rfl, tyz, kz, _, rfl, ?_⟩
    cases v with
    | blk w' vs => exact iteTr rfl (q H2 f2)
    | fn x' b' k' => exact iteTr rfl (q H2 f2)
    | num i =>
      have ez : z = .int i := by
        cases rep2
        rfl
      subst ez
      refine iteFr rfl ⟨_, rfl, rfl, _, rfl, ?_⟩
      have q : Ret K A most H r m u (if i ≠ 0 then EV D most u n a k s1 else EV D most u n b k s1) Q E := q
      have ed : (!decide (V.int i = V.int 0)) = decide (i ≠ 0) := by
        by_cases hi : i = 0
        · subst hi
          rfl
        · rw [decide_eq_true hi, decide_eq_false (fun z => hi (V.int.inj z))]
          rfl
      rw [ed]
      have go : ∀ {y : V} {ph : PyData} {j : Nat}, Dq K H y ph → Wf pool n ph → Ret K A most H r m u (EV D most u n ph k s1) Q E → spVal K A pool D most u n [.ref r, y, .ref d] H2 Q E :=
        fun {y ph j} hy hw hq => ⟨r, d, y, ph, m2, k, s1, rfl, pre2, dp_fwd ns f2 hy, hw, trivial, hq.imp f2 hm2 ⟨_, hr2⟩⟩
      by_cases hi : i ≠ 0
      · rw [if_pos hi] at q
        rw [decide_eq_true hi]
        exact iteT ⟨_, rfl, r, dx2, _, rfl, hr2, rfl, _, rfl, t, _, _, _, rfl, rfl, sqT_fwd ns f2 ht, at_of (j := 2) rfl rfl, _, rfl, go (j := 0) h2 ha q⟩
      · rw [if_neg hi] at q
        rw [decide_eq_false hi]
        exact iteF ⟨_, rfl, r, dx2, _, rfl, hr2, rfl, _, rfl, t, _, _, _, rfl, rfl, sqT_fwd ns f2 ht, at_of (j := 3) rfl rfl, _, rfl, go (j := 0) h3 hb q⟩

/-! ### Runner.ring_value -/
abbrev s_Runner_ring_value : Stmt := inClass (top 15) 5
def N_Runner_ring_value : List Str := ["self", "phrase", "names", "inner", "name", "thing", "body"]
theorem sc_Runner_ring_value : FnScope N_Runner_ring_value ["self", "phrase", "names"] (defScope s_Runner_ring_value) := ⟨rfl, rfl, rfl, by decide +kernel, rfl, by decide +kernel, by decide +kernel⟩
theorem dpall_drop {K : PySem.W.Frag} {H : Hp} : ∀ {vs : List V} {ds : List PyData} (i : Nat), DqAll K H vs ds → DqAll K H (vs.drop i) (ds.drop i)
  | _, _, 0, h => h
  | _, _, _ + 1, .nil => .nil
  | _, _, i + 1, .cons _ t => dpall_drop i t
theorem ok_ring_value {u n lv : Nat} (F : Fun K "ring_value" "Runner.ring_value" s_Runner_ring_value f fd) (T : RT K mg A) (hp : pool.length ≤ 1000) (hn : n + 1 ≤ D)
    (k_Function : MakN P w K mg base CX0 1 "Function" A.CF ["self", "name", "phrase", "names"] (spFnI A))
    (m_value : MetN P w K mg base (L2N.CX P w) lv A.CR "value" ["self", "phrase", "names"] (spVal K A pool D most u n)) :
    FnN P w K mg base (L2N.CX P w) (lv + 1) f fd ["self", "phrase", "names"] (spForm K A pool D most (Head "ring") u (n + 1)) := by
  refine okN F sc_Runner_ring_value (fun vs H Q E h => ?_) (fun cdv A' outer s H vs Q E hr h => ?_)
  · obtain ⟨_, _, _, _, _, _, _, rfl, _⟩ := h
    rfl
  obtain ⟨r, d, phv, ph, m, k, st, rfl, pre, hdp, hwf, hform, q⟩ := h
  have tk := L2N.takes_of (X := cxOf (L2N.CX P w) P w K mg base N_Runner_ring_value "Runner.ring_value" (defScope s_Runner_ring_value) f cdv A' outer s H E) (E := E) rfl rfl rfl rfl
  have pX := pX_of tk
  have hu := hr.hu
  have PO : PassesOwn (model P w) (A'.deeper (envOfC "Runner.ring_value" (defScope s_Runner_ring_value) s.heap.objs.size f cdv)) (envOfC "Runner.ring_value" (defScope s_Runner_ring_value) s.heap.objs.size f cdv)
      (cxOf (L2N.CX P w) P w K mg base N_Runner_ring_value "Runner.ring_value" (defScope s_Runner_ring_value) f cdv A' outer s H E).xe :=
    passes_of (X := cxOf (L2N.CX P w) P w K mg base N_Runner_ring_value "Runner.ring_value" (defScope s_Runner_ring_value) f cdv A' outer s H E) rfl
  refine ⟨_, (pss_cons (ps_set (i := 3) sc_Runner_ring_value.nd rfl (Or.inl rfl) (pe_callTy call_dictD (by rfl) T.z_dict (by decide +kernel) (pa_cons (pv 2) pa_nil)))
  (pss_cons (ps_for PO rfl (pi_tup (pe_ix ix_tup (pv 1) pe_int (fun _ _ => rfl))) (pg_tup rfl (pgs_cons (pg_name (i := 4) sc_Runner_ring_value.nd rfl (.inl rfl)) (pgs_cons (pg_name (i := 5) sc_Runner_ring_value.nd rfl (.inl rfl)) (pgs_cons (pg_name (i := 6) sc_Runner_ring_value.nd rfl (.inl rfl)) pgs_nil))))
    (pss_one (ps_dput hu (pv 3) (pv 4) (pe_kN k_Function hr rfl pass0 (pa_cons (pv 5) (pa_cons (pv 6) (pa_cons (pv 3) pa_nil)))) rfl)))
  (pss_one (ps_ret (pe_mN m_value (pv 0) hr pX (pa_cons (pe_ix ix_tup (pv 1) pe_int (fun _ _ => rfl)) (pa_cons (pv 3) pa_nil))))))), ?_⟩
  obtain ⟨fs, b, rfl, hfs, hfw, hfl, hb⟩ := wf_ring hwf hform
  obtain ⟨t, x0, x1, x2, rfl, ht, h0, h1, h2⟩ := dp_tup3 hdp
  obtain ⟨fa, ys, rfl, hfa, hys⟩ := dp_tup h1
  obtain ⟨ndr, kvs, hd, rel⟩ := pre.env
  obtain ⟨⟨dx, sp, hr0⟩, ev⟩ := id pre.run
  have ns := pre.run.ns
  have lys : ys.length = fs.length := by
    rw [dpall_len hys, List.length_map]
  -- inner = dict(names)
  refine ⟨_, rfl, d, kvs, rfl, .inl hd, fun p hpn => ?_⟩
  have nrp : r ≠ p := ne_of_none hr0 hpn
  have nfap : ∀ {H' : Hp}, Fwd r H H' → SqT K H' fa ys := fun {H'} f => sqT_fwd ns f hfa
  rw [EV_eq, ev_ring, ← EV_eq] at q
  have pm : p ∉ m := fun z => by
    obtain ⟨_, kv, hk⟩ := pre.run.mem z
    rw [hpn] at hk
    cases hk
  have start : Fwd r H (upd H p (.dK kvs)) := Fwd.new hpn
  have hix : (m ++ [p])[st.envs.length]? = some p := by
    rw [← ev.len, List.getElem?_append_right (Nat.le_refl _), Nat.sub_self]
    rfl
  refine ⟨_, rfl, t, _, _, _, rfl, rfl, sqT_fwd ns start ht, at_of (j := 1) rfl rfl, fa, rfl, ⟨ys, nfap start⟩, for_tup (K := K) (a := fa) (xs := ys) (fun i σ H' => ∃ (o1 o2 o3 : Option V) (kv' : List (L2.Key × V)) (e' : Env),
      σ = [some (.ref r), some (.ref t), some (.ref d), some (.ref p), o1, o2, o3] ∧ Fwd r H H' ∧ H' r = H r ∧ H' p = some (.dK kv') ∧ KVR K (FRr A) H' (m ++ [p]) kv' e' ∧ GoodE pool D (st.envs.length + 1) e' ∧
      ringPut st.envs.length (fs.map fun f => .tuple [.str f.1, .str f.2.1, f.2.2]) (st.env k) = ringPut st.envs.length ((fs.map fun f => PyData.tuple [.str f.1, .str f.2.1, f.2.2]).drop i) e')
    ⟨_, _, _, kvs, st.env k, rfl, start, upd_ne nrp, upd_same, kvr_carry (pre.run.carry T start) ⟨[p], rfl⟩ rel, (pre.good.env k).mono (Nat.le_add_right _ 1), rfl⟩ ?_ ?_ ?_⟩
  · rintro i σ H' _ ⟨_, _, _, _, _, _, f1, _⟩
    exact nfap f1
  · rintro i y σ H' hi ⟨o1, o2, o3, kv', e', rfl, f1, hr1, hp1, rel1, good1, eq1⟩
    have hil : i < fs.length := by
      rw [← lys]
      exact (List.getElem?_eq_some_iff.mp hi).1
    have efs : fs[i]? = some fs[i] := List.getElem?_eq_getElem hil
    have edrop : (fs.map fun f => PyData.tuple [.str f.1, .str f.2.1, f.2.2]).drop i = .tuple [.str fs[i].1, .str fs[i].2.1, fs[i].2.2] :: (fs.map fun f => PyData.tuple [.str f.1, .str f.2.1, f.2.2]).drop (i + 1) := by
      rw [List.drop_eq_getElem_cons (by rw [List.length_map]; exact hil), List.getElem_map]
    obtain ⟨z, hz, hzd⟩ := dpall_get (i := i) hys (by rw [List.getElem?_map, efs]; rfl)
    rw [hi] at hz
    cases hz
    obtain ⟨ya, y0, y1, y2, rfl, hya, g0, g1, g2⟩ := dp_tup3 (dp_fwd ns f1 hzd)
    have e0 := dp_str g0
    have e1 := dp_str g1
    subst e0 e1
    refine ⟨ya, _, rfl, hya, rfl, _, _, rfl, _, _, rfl, _, _, rfl, rfl, ?_⟩
    refine ⟨_, rfl, _, rfl, _, rfl, fun x dx' nx ndx nex => ?_⟩
    have hr1' : H' r = some (.ins A.CR dx (rF sp most st.begun (10 - (u : Int)))) := by
      rw [hr1]
      exact hr0
    have npx : p ≠ x := ne_of_none hp1 nx
    have npd : p ≠ dx' := ne_of_none hp1 ndx
    have nrx : r ≠ x := ne_of_none hr1' nx
    have nrd : r ≠ dx' := ne_of_none hr1' ndx
    refine ⟨x, dx', fs[i].2.1, y2, p, rfl, upd_same, rfl, ?_⟩
    rw [upd_upd]
    have fA : Fwd r H' (upd (upd H' dx' (.own x)) x (.ins A.CF dx' (fF fs[i].2.1 y2 p))) :=
      (Fwd.new ndx).trans (Fwd.new (by rw [upd_ne nex.symm]; exact nx))
    have hAr : upd (upd H' dx' (.own x)) x (.ins A.CF dx' (fF fs[i].2.1 y2 p)) r = H r := by
      rw [upd_ne nrx, upd_ne nrd]
      exact hr1
    have hAp : upd (upd H' dx' (.own x)) x (.ins A.CF dx' (fF fs[i].2.1 y2 p)) p = some (.dK kv') := by
      rw [upd_ne npx, upd_ne npd]
      exact hp1
    have hAx : upd (upd H' dx' (.own x)) x (.ins A.CF dx' (fF fs[i].2.1 y2 p)) x = some (.ins A.CF dx' (fF fs[i].2.1 y2 p)) := upd_same
    generalize upd (upd H' dx' (.own x)) x (.ins A.CF dx' (fF fs[i].2.1 y2 p)) = HA at fA hAr hAp hAx
    have hlen : kv'.length < sizeLine := by
      rw [kvr_len rel1]
      exact small1000 (Nat.le_trans good1.len hp)
    refine ⟨_, rfl, _, rfl, p, _, rfl, DPut.k (k := Sum.inr fs[i].1) hAp hlen, ?_⟩
    have cA : Carry K (FRr A) r H' HA := carryR T hr1' fA
    have c3 : Carry K (FRr A) p HA (upd HA p (.dK (putK kv' (Sum.inr fs[i].1) (.ref x)))) := carryP hAp
    have mf := List.getElem_mem hil
    refine ⟨_, _, _, _, envPut e' fs[i].1 (.fn fs[i].2.1 fs[i].2.2 st.envs.length), rfl, (f1.trans fA).late hpn, by rw [upd_ne nrp]; exact hAr, upd_same, ?_, good1.put (hfs _ mf).1 (.fn (hfs _ mf).2 ((hfw _ mf).mono (by omega)) (Nat.lt_succ_self _)), ?_⟩
    · refine kvr_put (kvr_carry c3 ⟨[], (List.append_nil _).symm⟩ (kvr_carry cA ⟨[], (List.append_nil _).symm⟩ rel1)) (.fn (c3.fr _ _ _ _ ⟨dx', hAx⟩) (dp_fwd c3.ns c3.fw (dp_fwd cA.ns fA g2)) hix)
    · rw [eq1, edrop]
      rfl
  · rintro σ H' ⟨o1, o2, o3, kv', e', rfl, f1, hr1, hp1, rel1, good1, eq1⟩
    rw [List.drop_eq_nil_of_le (by rw [List.length_map, lys]; exact Nat.le_refl _)] at eq1
    have eq1 : ringPut st.envs.length (fs.map fun f => .tuple [.str f.1, .str f.2.1, f.2.2]) (st.env k) = e' := eq1
    rw [eq1] at q
    have hr1' : H' r = some (.ins A.CR dx (rF sp most st.begun (10 - (u : Int)))) := by
      rw [hr1]
      exact hr0
    have pre2 := (pre.fwd T f1 hr1).snoc T nrp.symm ⟨kv', hp1, rel1⟩ good1
    refine ⟨_, rfl, r, dx, _, rfl, hr1', rfl, _, rfl, t, _, _, _, rfl, rfl, sqT_fwd ns f1 ht, at_of (j := 2) rfl rfl, _, rfl, ?_⟩
    exact ⟨r, p, x2, b, m ++ [p], _, _, rfl, pre2, dp_fwd ns f1 h2, hb, trivial, q.imp f1 (Ext.one hpn) ⟨_, hr1'⟩⟩
end
end FW

set_option Elab.async false
set_option linter.all false
set_option maxRecDepth 100000
set_option maxHeartbeats 4000000
/-! R5: the runner: values of phrases. -/
namespace FW
open PySem PySem.Spec PyProof.Rows L2

section
variable {P : Program} {w : World} {K : PySem.W.Frag} {mg : Str → Option Value} {base : Heap} {A : Ad} {f : Addr} {fd : FuncData} {pool : List Str} {D : Nat} {most : Int}

def Bound (p : PyData) : Prop := Head "let" p ∨ Head "ring" p ∨ Head "if" p
/-! ### Runner.bound_value -/
abbrev s_Runner_bound_value : Stmt := inClass (top 15) 9
def N_Runner_bound_value : List Str := ["self", "phrase", "names"]
theorem sc_Runner_bound_value : FnScope N_Runner_bound_value ["self", "phrase", "names"] (defScope s_Runner_bound_value) := ⟨rfl, rfl, rfl, by decide +kernel, rfl, by decide +kernel, by decide +kernel⟩
theorem ok_bound_value {u n lv : Nat} (F : Fun K "bound_value" "Runner.bound_value" s_Runner_bound_value f fd) (T : RT K mg A)
    (m_let_value : MetN P w K mg base (L2N.CX P w) lv A.CR "let_value" ["self", "phrase", "names"] (spForm K A pool D most (Head "let") u (n + 1)))
    (m_ring_value : MetN P w K mg base (L2N.CX P w) lv A.CR "ring_value" ["self", "phrase", "names"] (spForm K A pool D most (Head "ring") u (n + 1)))
    (m_if_value : MetN P w K mg base (L2N.CX P w) lv A.CR "if_value" ["self", "phrase", "names"] (spForm K A pool D most (Head "if") u (n + 1)))
    (m_case_value : MetN P w K mg base (L2N.CX P w) lv A.CR "case_value" ["self", "phrase", "names"] (fun _ _ _ _ => False))
    (m_pick_value : MetN P w K mg base (L2N.CX P w) lv A.CR "pick_value" ["self", "phrase", "names"] (fun _ _ _ _ => False)) :
    FnN P w K mg base (L2N.CX P w) (lv + 1) f fd ["self", "phrase", "names"] (spForm K A pool D most Bound u (n + 1)) := by
  refine okN F sc_Runner_bound_value (fun vs H Q E h => ?_) (fun cdv A' outer s H vs Q E hr h => ?_)
  · obtain ⟨_, _, _, _, _, _, _, rfl, _⟩ := h
    rfl
  obtain ⟨r, d, phv, ph, m, k, st, rfl, pre, hdp, hwf, hform, q⟩ := h
  have tk := L2N.takes_of (X := cxOf (L2N.CX P w) P w K mg base N_Runner_bound_value "Runner.bound_value" (defScope s_Runner_bound_value) f cdv A' outer s H E) (E := E) rfl rfl rfl rfl
  have pX := pX_of tk
  refine ⟨_, (pss_cons (ps_if (pt_cmpR op_eq (pe_ix ix_tup (pv 1) pe_int (fun _ _ => rfl)) pe_str (nomark _))
    (pss_one (ps_ret (pe_mN m_let_value (pv 0) hr pX (pa_cons (pv 1) (pa_cons (pv 2) pa_nil)))))
    pss_nil)
  (pss_cons (ps_if (pt_cmpR op_eq (pe_ix ix_tup (pv 1) pe_int (fun _ _ => rfl)) pe_str (nomark _))
    (pss_one (ps_ret (pe_mN m_ring_value (pv 0) hr pX (pa_cons (pv 1) (pa_cons (pv 2) pa_nil)))))
    pss_nil)
  (pss_cons (ps_if (pt_cmpR op_eq (pe_ix ix_tup (pv 1) pe_int (fun _ _ => rfl)) pe_str (nomark _))
    (pss_one (ps_ret (pe_mN m_case_value (pv 0) hr pX (pa_cons (pv 1) (pa_cons (pv 2) pa_nil)))))
    pss_nil)
  (pss_cons (ps_if (pt_cmpR op_eq (pe_ix ix_tup (pv 1) pe_int (fun _ _ => rfl)) pe_str (nomark _))
    (pss_one (ps_ret (pe_mN m_if_value (pv 0) hr pX (pa_cons (pv 1) (pa_cons (pv 2) pa_nil)))))
    pss_nil)
  (pss_one (ps_ret (pe_mN m_pick_value (pv 0) hr pX (pa_cons (pv 1) (pa_cons (pv 2) pa_nil))))))))), ?_⟩
  obtain ⟨⟨dx, sp, hr0⟩, ev⟩ := id pre.run
  rcases hform with hf | hf | hf
  · obtain ⟨ps, rfl⟩ := id hf
    obtain ⟨t, xs, rfl, ht, hds⟩ := dp_tup hdp
    cases hds with
    | cons h0 hrest =>
      have e0 := dp_str h0
      subst e0
      refine ⟨_, rfl, t, _, _, _, rfl, rfl, ht, at_of (j := 0) rfl rfl, rfl, _, rfl, iteTr rfl ?_⟩
      exact ⟨_, rfl, r, dx, _, rfl, hr0, rfl, _, rfl, _, rfl, r, d, _, _, m, k, st, rfl, pre, hdp, hwf, hf, q⟩
  · obtain ⟨ps, rfl⟩ := id hf
    obtain ⟨t, xs, rfl, ht, hds⟩ := dp_tup hdp
    cases hds with
    | cons h0 hrest =>
      have e0 := dp_str h0
      subst e0
      refine ⟨_, rfl, t, _, _, _, rfl, rfl, ht, at_of (j := 0) rfl rfl, rfl, _, rfl, iteFr rfl ?_⟩
      refine ⟨_, rfl, t, _, _, _, rfl, rfl, ht, at_of (j := 0) rfl rfl, rfl, _, rfl, iteTr rfl ?_⟩
      exact ⟨_, rfl, r, dx, _, rfl, hr0, rfl, _, rfl, _, rfl, r, d, _, _, m, k, st, rfl, pre, hdp, hwf, hf, q⟩
  · obtain ⟨ps, rfl⟩ := id hf
    obtain ⟨t, xs, rfl, ht, hds⟩ := dp_tup hdp
    cases hds with
    | cons h0 hrest =>
      have e0 := dp_str h0
      subst e0
      refine ⟨_, rfl, t, _, _, _, rfl, rfl, ht, at_of (j := 0) rfl rfl, rfl, _, rfl, iteFr rfl ?_⟩
      refine ⟨_, rfl, t, _, _, _, rfl, rfl, ht, at_of (j := 0) rfl rfl, rfl, _, rfl, iteFr rfl ?_⟩
      refine ⟨_, rfl, t, _, _, _, rfl, rfl, ht, at_of (j := 0) rfl rfl, rfl, _, rfl, iteFr rfl ?_⟩
      refine ⟨_, rfl, t, _, _, _, rfl, rfl, ht, at_of (j := 0) rfl rfl, rfl, _, rfl, iteTr rfl ?_⟩
      exact ⟨_, rfl, r, dx, _, rfl, hr0, rfl, _, rfl, _, rfl, r, d, _, _, m, k, st, rfl, pre, hdp, hwf, hf, q⟩

/-! ### Runner.all_of -/
def RetL (K : PySem.W.Frag) (A : Ad) (most : Int) (H : Hp) (r : Addr) (m : List Addr) (u : Nat) (o : Out (List Val)) (Q : VK) (E : XK) : Prop :=
  match o with
  | .ok vs s' => ∀ (H' : Hp) (m' : List Addr) (L : Addr) (us : List V), Fwd r H H' → RunAt K A most H' r m' u s' → Ext H m m' → H' L = some (.lst us) → RepVs K (FRr A) H' m' us vs → Q (.ref L) H'
  | .bad g _ => ∀ H' : Hp, Fwd r H H' → E (.ref (A.exc g)) none H'
def spAll (K : PySem.W.Frag) (A : Ad) (pool : List Str) (D : Nat) (most : Int) (u n : Nat) : Sp := fun vs H Q E =>
  ∃ (r d t : Addr) (xs : List V) (ps : List PyData) (m : List Addr) (k : Nat) (s : MS), vs = [.ref r, .ref t, .ref d] ∧ Pre K A pool D most H r m u s d k ∧ SqT K H t xs ∧ DqAll K H xs ps ∧ (∀ p ∈ ps, Wf pool n p) ∧
    ps.length ≤ 100 ∧ RetL K A most H r m u (evs (EV D most u n) ps k s) Q E
theorem repVs_snoc {FR : FRT} {H : Hp} {m : List Addr} : ∀ {us : List V} {vs : List Val} {u : V} {v : Val}, RepVs K FR H m us vs → RepV K FR H m u v → RepVs K FR H m (us ++ [u]) (vs ++ [v])
  | _, _, _, _, .nil, h => .cons h .nil
  | _, _, _, _, .cons h t, h' => .cons h (repVs_snoc t h')
theorem repVs_len {FR : FRT} {H : Hp} {m : List Addr} : ∀ {us : List V} {vs : List Val}, RepVs K FR H m us vs → us.length = vs.length
  | _, _, .nil => rfl
  | _, _, .cons _ t => congrArg (· + 1) (repVs_len t)
theorem then_ok {α : Type} (o : Out α) : o.then (fun v s => .ok v s) = o := by cases o <;> rfl
/-- a list grows: nothing of a state changes -/
theorem carryL {H : Hp} {L : Addr} {us us' : List V} (h : H L = some (.lst us)) : Carry K (FRr A) L H (upd H L (.lst us')) := by
  refine ⟨⟨_, h, by intro; simp, by intro _ _; simp⟩, Fwd.own, fun a x pb d q => ?_⟩
  obtain ⟨dx, q⟩ := q
  refine ⟨dx, ?_⟩
  rw [upd_ne (ne_of q h (by intro z; cases z))]
  exact q
theorem Pre.list {H : Hp} {r d L : Addr} {m : List Addr} {u k : Nat} {s : MS} {us us' : List V} (h : Pre K A pool D most H r m u s d k) (hL : H L = some (.lst us)) : Pre K A pool D most (upd H L (.lst us')) r m u s d k := by
  obtain ⟨R, g, i⟩ := h
  obtain ⟨⟨dx, sp, hr⟩, ev⟩ := id R
  refine ⟨⟨⟨dx, sp, ?_⟩, envsAt_carryP (carryL hL) (fun e he z => ?_) ev⟩, g, i⟩
  · rw [upd_ne (ne_of hr hL (by intro z; cases z))]
    exact hr
  · obtain ⟨_, kv, hk⟩ := R.mem he
    rw [z, hL] at hk
    cases hk

abbrev s_Runner_all_of : Stmt := inClass (top 15) 1
def N_Runner_all_of : List Str := ["self", "phrases", "names", "phrase"]
theorem sc_Runner_all_of : FnScope N_Runner_all_of ["self", "phrases", "names"] (defScope s_Runner_all_of) := ⟨rfl, rfl, rfl, by decide +kernel, rfl, by decide +kernel, by decide +kernel⟩
theorem ok_all_of {u n lv : Nat} (F : Fun K "all_of" "Runner.all_of" s_Runner_all_of f fd) (T : RT K mg A) (hn : n ≤ D)
    (m_value : MetN P w K mg base (L2N.CX P w) lv A.CR "value" ["self", "phrase", "names"] (spVal K A pool D most u n)) :
    FnN P w K mg base (L2N.CX P w) (lv + 1) f fd ["self", "phrases", "names"] (spAll K A pool D most u n) := by
  refine okN F sc_Runner_all_of (fun vs H Q E h => ?_) (fun cdv A' outer s H vs Q E hr h => ?_)
  · obtain ⟨_, _, _, _, _, _, _, _, rfl, _⟩ := h
    rfl
  obtain ⟨r, d, t, xs, ps, m, k, st, rfl, pre, ht, hds, hw, hl, q⟩ := h
  have tk := L2N.takes_of (X := cxOf (L2N.CX P w) P w K mg base N_Runner_all_of "Runner.all_of" (defScope s_Runner_all_of) f cdv A' outer s H E) (E := E) rfl rfl rfl rfl
  refine ⟨_, (pss_one (ps_ret (pe_lcX (own := [("phrase", 3)]) rfl rfl tk rfl sc_Runner_all_of.nd (pi_tup (pv 1)) (blkOk_by (own := [("phrase", 3)]) (N := N_Runner_all_of) (sc := defScope s_Runner_all_of) (by decide +kernel)) (fun _ _ _ _ _ => (pg_name (i := 3) sc_Runner_all_of.nd rfl (.inl rfl))) (fun _ _ _ _ _ => pts_nil) (fun _ _ _ _ _ => (pe_mN m_value (pv 0) hr passB (pa_cons (pv 3) (pa_cons (pv 2) pa_nil))))))), ?_⟩
  have lxs := dpall_len hds
  obtain ⟨⟨dx, sp, hr0⟩, ev⟩ := id pre.run
  have ns := pre.run.ns
  refine ⟨_, rfl, t, rfl, ⟨xs, ht⟩, fun L hL => ?_⟩
  have nrL : r ≠ L := ne_of_none hr0 hL
  have f0 : Fwd r H (upd H L (.lst [])) := Fwd.new hL
  refine lc_tup (K := K) (a := t) (xs := xs) (fun i H' => ∃ (us : List V) (vs : List Val) (si : MS) (mi : List Addr), H' L = some (.lst us) ∧ us.length = i ∧ RepVs K (FRr A) H' mi us vs ∧ Pre K A pool D most H' r mi u si d k ∧ Fwd r H H' ∧ Ext H m mi ∧
      evs (EV D most u n) ps k st = (evs (EV D most u n) (ps.drop i) k si).then fun ws s' => .ok (vs ++ ws) s')
    ⟨[], [], st, m, upd_same, rfl, .nil, pre.fwd T f0 (upd_ne nrL), f0, Ext.refl, ?_⟩ ?_ ?_ ?_
  · exact (then_ok _).symm
  · rintro i H' _ ⟨_, _, _, _, _, _, _, _, f1, _⟩
    exact sqT_fwd ns f1 ht
  · rintro i y H1 hi ⟨us, vs, si, mi, hL1, hlen, rep1, pre1, f1, ext1, eq1⟩
    have hil : i < ps.length := by
      rw [← lxs]
      exact (List.getElem?_eq_some_iff.mp hi).1
    have edrop : ps.drop i = ps[i] :: ps.drop (i + 1) := List.drop_eq_getElem_cons hil
    obtain ⟨z, hz, hzd⟩ := dpall_get (i := i) hds (List.getElem?_eq_getElem hil)
    rw [hi] at hz
    cases hz
    obtain ⟨⟨dx1, sp1, hr1⟩, _⟩ := id pre1.run
    refine ⟨rfl, ?_⟩
    refine ⟨_, rfl, r, dx1, _, rfl, hr1, rfl, _, rfl, _, rfl, ?_⟩
    refine ⟨r, d, y, ps[i], mi, k, si, rfl, pre1, dp_fwd ns f1 hzd, hw _ (List.getElem_mem hil), trivial, ?_⟩
    rw [edrop] at eq1
    have eq2 : evs (EV D most u n) ps k st = (((EV D most u n ps[i] k si).then fun v s1 => (evs (EV D most u n) (ps.drop (i + 1)) k s1).then fun ws s2 => .ok (v :: ws) s2).then fun ws s' => .ok (vs ++ ws) s') := eq1
    cases e : EV D most u n ps[i] k si with
    | bad g s1 =>
      rw [e] at eq2
      have eq3 : evs (EV D most u n) ps k st = .bad g s1 := eq2
      rw [eq3] at q
      exact fun H2 f2 => q H2 (f1.trans f2)
    | ok v s1 =>
      rw [e] at eq2
      intro H2 m2 z f2 run2 hm2 rep2
      obtain ⟨pre2, gv, _⟩ := pre1.then hn (hw _ (List.getElem_mem hil)) e hm2 run2
      have c12 := pre1.run.carry T f2
      have hL2 : H2 L = some (.lst us) := f2 _ _ hL1 nrL.symm
      refine ⟨us, hL2, ?_, us ++ [z], vs ++ [v], s1, m2, upd_same, by rw [List.length_append, hlen]; rfl, ?_, ?_, (f1.trans f2).late hL, ext1.trans hm2 fun p hp => f1.non ⟨_, hr1⟩ hp, ?_⟩
      · rw [hlen]
        exact small1000 (by omega)
      · exact repVs_snoc (repVs_carry (carryL hL2) ⟨[], (List.append_nil _).symm⟩ (repVs_carry c12 hm2.ex rep1)) (repV_carry (carryL hL2) ⟨[], (List.append_nil _).symm⟩ rep2)
      · exact pre2.list hL2
      · rw [eq2]
        show ((evs (EV D most u n) (ps.drop (i + 1)) k s1).then fun ws s2 => Out.ok (v :: ws) s2).then (fun ws s' => Out.ok (vs ++ ws) s') = _
        cases evs (EV D most u n) (ps.drop (i + 1)) k s1 with
        | bad g s2 => rfl
        | ok ws s2 =>
          show Out.ok (vs ++ v :: ws) s2 = Out.ok (vs ++ [v] ++ ws) s2
          rw [List.append_assoc]
          rfl
  · rintro H1 ⟨us, vs, si, mi, hL1, hlen, rep1, pre1, f1, ext1, eq1⟩
    rw [List.drop_eq_nil_of_le (by rw [lxs]; exact Nat.le_refl _)] at eq1
    have eq2 : evs (EV D most u n) ps k st = .ok (vs ++ []) si := eq1
    rw [List.append_nil] at eq2
    rw [eq2] at q
    exact q H1 mi L us f1 pre1.run ext1 hL1 rep1
end
end FW

set_option Elab.async false
set_option linter.all false
set_option maxRecDepth 100000
set_option maxHeartbeats 8000000
/-! R6: the runner: any phrase; the knot of its methods. -/
namespace FW
open PySem PySem.Spec PyProof.Rows L2

section
variable {P : Program} {w : World} {K : PySem.W.Frag} {mg : Str → Option Value} {base : Heap} {A : Ad} {f : Addr} {fd : FuncData} {pool : List Str} {D : Nat} {most : Int}

theorem reck_state {wd : Str} {a b v : Val} {s s' : MS} (h : reck wd a b s = .ok v s') : s' = s ∧ ∃ i, v = .num i := by
  have hb : ∀ n : Int, bnd n s = .ok v s' → s' = s ∧ ∃ i, v = .num i := fun n h => by
    unfold bnd at h
    by_cases hg : greatest < (if n < 0 then -n else n)
    · rw [if_pos hg] at h
      cases h
    · rw [if_neg hg] at h
      cases h
      exact ⟨rfl, _, rfl⟩
  unfold reck at h
  split at h
  · repeat (first | exact hb _ h | (cases h; exact ⟨rfl, _, rfl⟩) | split at h)
  · cases h
theorem evs2 {u n k : Nat} {s s' : MS} {a b : PyData} {vs : List Val} (hn : n ≤ D) (ha : Wf pool n a) (hb : Wf pool n b) (hk : k < s.envs.length) (hs : GoodS pool D s) (e : evs (EV D most u n) [a, b] k s = .ok vs s') :
    ∃ v z, vs = [v, z] ∧ GoodS pool D s' ∧ GoodV pool D s'.envs.length v ∧ GoodV pool D s'.envs.length z := by
  have g := (EV_good pool D most u).1 n hn
  have g1 := g a k s ha hk hs
  unfold evs at e
  cases e1 : EV D most u n a k s with
  | bad x s1 =>
    rw [e1] at e
    cases e
  | ok v s1 =>
    rw [e1] at e g1
    obtain ⟨s1g, v1g, gr1⟩ := g1
    have g2 := g b k s1 hb (Nat.lt_of_lt_of_le hk gr1.le) s1g
    have e : (evs (EV D most u n) [b] k s1).then (fun vs s2 => Out.ok (v :: vs) s2) = .ok vs s' := e
    unfold evs at e
    cases e2 : EV D most u n b k s1 with
    | bad x s2 =>
      rw [e2] at e
      cases e
    | ok z s2 =>
      rw [e2] at e g2
      have e : Out.ok [v, z] s2 = .ok vs s' := e
      cases e
      exact ⟨v, z, rfl, g2.1, v1g.mono g2.2.2.le, g2.2.1⟩
theorem gnum {L : Nat} {v : Val} (h : GoodV pool D L v) : GNum v := fun i e => by
  subst e
  cases h with
  | num h => exact h

/-! ### Runner.value -/
abbrev s_Runner_value : Stmt := inClass (top 15) 10
def N_Runner_value : List Str := ["self", "phrase", "names", "word", "values"]
theorem sc_Runner_value : FnScope N_Runner_value ["self", "phrase", "names"] (defScope s_Runner_value) := ⟨rfl, rfl, rfl, by decide +kernel, rfl, by decide +kernel, by decide +kernel⟩
theorem ok_value {u n lv : Nat} (F : Fun K "value" "Runner.value" s_Runner_value f fd) (T : RT K mg A) (hn : n + 1 ≤ D) (hlv : 3 ≤ lv)
    (c_is_number : CalN P w K mg base CX0 1 "is_number" ["value"] (spIsNum K))
    (c_reckoned : CalN P w K mg base (L2N.CX P w) 2 "reckoned" ["word", "one", "other"] (spReck K A))
    (k_Function : MakN P w K mg base CX0 1 "Function" A.CF ["self", "name", "phrase", "names"] (spFnI A))
    (m_word_value : MetN P w K mg base (L2N.CX P w) 2 A.CR "word_value" ["self", "word", "names"] (spWord K A pool D most u))
    (m_bound_value : MetN P w K mg base (L2N.CX P w) lv A.CR "bound_value" ["self", "phrase", "names"] (spForm K A pool D most Bound u (n + 1)))
    (m_all_of : MetN P w K mg base (L2N.CX P w) lv A.CR "all_of" ["self", "phrases", "names"] (spAll K A pool D most u n))
    (m_called : MetN P w K mg base (L2N.CX P w) lv A.CR "called" ["self", "function", "thing"] (spCalled K A pool D most u)) :
    FnN P w K mg base (L2N.CX P w) (lv + 1) f fd ["self", "phrase", "names"] (spVal K A pool D most u (n + 1)) := by
  refine okN F sc_Runner_value (fun vs H Q E h => ?_) (fun cdv A' outer s H vs Q E hr h => ?_)
  · obtain ⟨_, _, _, _, _, _, _, rfl, _⟩ := h
    rfl
  obtain ⟨r, d, phv, ph, m, k, st, rfl, pre, hdp, hwf, _, q⟩ := h
  have tk := L2N.takes_of (X := cxOf (L2N.CX P w) P w K mg base N_Runner_value "Runner.value" (defScope s_Runner_value) f cdv A' outer s H E) (E := E) rfl rfl rfl rfl
  have pX := pX_of tk
  refine ⟨_, (pss_cons (ps_if (pt_val (pe_cN c_is_number hr (by rfl) pass0 (pa_cons (pv 1) pa_nil)))
    (pss_one (ps_ret (pv 1)))
    pss_nil)
  (pss_cons (ps_if (pt_val (pe_callB call_isi (by rfl) T.z_isinstance (by decide +kernel) (pa_cons (pv 1) (pa_cons (pe_tyN (n := "str") (by rfl) T.z_str (by decide +kernel)) pa_nil))))
    (pss_one (ps_ret (pe_mN m_word_value (pv 0) hr pX (pa_cons (pv 1) (pa_cons (pv 2) pa_nil)))))
    pss_nil)
  (pss_cons (ps_set (i := 3) sc_Runner_value.nd rfl (Or.inl rfl) (pe_ix ix_tup (pv 1) pe_int (fun _ _ => rfl)))
  (pss_cons (ps_if (pt_cmpR op_eq (pv 3) pe_str (nomark _))
    (pss_one (ps_ret (pe_kN k_Function hr rfl pass0 (pa_cons (pe_ix ix_tup (pv 1) pe_int (fun _ _ => rfl)) (pa_cons (pe_ix ix_tup (pv 1) pe_int (fun _ _ => rfl)) (pa_cons (pv 2) pa_nil))))))
    pss_nil)
  (pss_cons (ps_if (pt_cmpR op_in_seq (pv 3) (pe_tup (pa_cons pe_str (pa_cons pe_str (pa_cons pe_str (pa_cons pe_str (pa_cons pe_str pa_nil)))))) (by rfl))
    (pss_one (ps_ret (pe_mN m_bound_value (pv 0) hr pX (pa_cons (pv 1) (pa_cons (pv 2) pa_nil)))))
    pss_nil)
  (pss_cons (ps_if (pt_cmpR op_eq (pv 3) pe_str (nomark _))
    (pss_one (ps_ret (pe_op op_catT (pe_tup (pa_cons (pe_ix ix_tup (pv 1) pe_int (fun _ _ => rfl)) pa_nil)) (pe_callTy call_tuple_of (by rfl) T.z_tuple (by decide +kernel) (pa_cons (pe_mN m_all_of (pv 0) hr pX (pa_cons (pe_slice sl_tup (pv 1) (po_some pe_int) po_none) (pa_cons (pv 2) pa_nil))) pa_nil)))))
    pss_nil)
  (pss_cons (ps_set (i := 4) sc_Runner_value.nd rfl (Or.inl rfl) (pe_mN m_all_of (pv 0) hr pX (pa_cons (pe_slice sl_tup (pv 1) (po_some pe_int) po_none) (pa_cons (pv 2) pa_nil))))
  (pss_cons (ps_if (pt_cmpR op_eq (pv 3) pe_str (nomark _))
    (pss_one (ps_ret (pe_mN m_called (pv 0) hr pX (pa_cons (pe_ix ix_list (pv 4) pe_int (fun _ _ => rfl)) (pa_cons (pe_ix ix_list (pv 4) pe_int (fun _ _ => rfl)) pa_nil)))))
    pss_nil)
  (pss_cons (ps_if (pt_cmpR op_in_seq (pv 3) (pe_tup (pa_cons pe_str (pa_cons pe_str (pa_cons pe_str (pa_cons pe_str pa_nil))))) (by rfl))
    (pss_one (ps_ret (pe_cN c_reckoned hr (by rfl) pX (pa_cons (pv 3) (pa_cons (pe_ix ix_list (pv 4) pe_int (fun _ _ => rfl)) (pa_cons (pe_ix ix_list (pv 4) pe_int (fun _ _ => rfl)) pa_nil))))))
    pss_nil)
  (pss_one (ps_ret (pe_op op_catT (pe_tup (pa_cons (pv 3) pa_nil)) (pe_callTy call_tuple_of (by rfl) T.z_tuple (by decide +kernel) (pa_cons (pv 4) pa_nil)))))))))))))), ?_⟩
  obtain ⟨⟨dx, sp, hr0⟩, ev⟩ := id pre.run
  have ns := pre.run.ns
  cases hwf with
  | @int _ i hi =>
    have e := dp_int hdp
    subst e
    refine ⟨_, rfl, _, _, true, rfl, .base (.int i), kit_ty (r := true) (by decide +kernel), _, rfl, iteTr rfl ⟨_, rfl, ?_⟩⟩
    rw [EV_eq, ev_int] at q
    exact q H m _ (Fwd.refl r H) pre.run Ext.refl (.num i)
  | @word _ wd hw hl =>
    have e := dp_str hdp
    subst e
    refine ⟨_, rfl, _, _, false, rfl, .base (.str wd), kit_ty (r := false) (by decide +kernel), _, rfl, iteFr rfl ?_⟩
    refine ⟨_, rfl, _, _, _, _, true, rfl, .ty _, .base (.str wd), kit_ty (r := true) (by decide +kernel), _, rfl, iteTr rfl ?_⟩
    rw [EV_eq, ev_word] at q
    exact ⟨_, rfl, r, dx, _, rfl, hr0, rfl, _, rfl, _, rfl, r, d, wd, m, k, st, rfl, pre, hw, hl, q⟩
  | @fn _ x b hx hb =>
    obtain ⟨t, x0, x1, x2, rfl, ht, h0, h1, h2⟩ := dp_tup3 hdp
    have e0 := dp_str h0
    have e1 := dp_str h1
    subst e0 e1
    refine ⟨_, rfl, _, _, false, rfl, tyT ht, kit_ty (r := false) (by decide +kernel), _, rfl, iteFr rfl ?_⟩
    refine ⟨_, rfl, _, _, _, _, false, rfl, .ty _, tyT ht, kit_ty (r := false) (by decide +kernel), _, rfl, iteFr rfl ?_⟩
    refine ⟨_, rfl, t, _, _, _, rfl, rfl, ht, at_of (j := 0) rfl rfl, ?_⟩
    refine ⟨_, rfl, rfl, _, rfl, iteTr rfl ?_⟩
    rw [EV_eq, ev_fn] at q
    refine ⟨_, rfl, t, _, _, _, rfl, rfl, ht, at_of (j := 1) rfl rfl, _, rfl, t, _, _, _, rfl, rfl, ht, at_of (j := 2) rfl rfl, _, rfl, fun y dy ny ndy ney => ?_⟩
    refine ⟨y, dy, x, x2, d, rfl, upd_same, rfl, ?_⟩
    rw [upd_upd]
    have fA : Fwd r H (upd (upd H dy (.own y)) y (.ins A.CF dy (fF x x2 d))) := (Fwd.new ndy).trans (Fwd.new (by rw [upd_ne ney.symm]; exact ny))
    have hAr : upd (upd H dy (.own y)) y (.ins A.CF dy (fF x x2 d)) r = H r := by
      rw [upd_ne (ne_of_none hr0 ny), upd_ne (ne_of_none hr0 ndy)]
    exact q _ m _ fA (pre.run.fwd T fA hAr) Ext.refl (.fn ⟨dy, upd_same⟩ (dp_fwd ns fA h2) pre.ix)
  | @call _ a b ha hb =>
    obtain ⟨t, x0, x1, x2, rfl, ht, h0, h1, h2⟩ := dp_tup3 hdp
    have e0 := dp_str h0
    subst e0
    refine ⟨_, rfl, _, _, false, rfl, tyT ht, kit_ty (r := false) (by decide +kernel), _, rfl, iteFr rfl ?_⟩
    refine ⟨_, rfl, _, _, _, _, false, rfl, .ty _, tyT ht, kit_ty (r := false) (by decide +kernel), _, rfl, iteFr rfl ?_⟩
    refine ⟨_, rfl, t, _, _, _, rfl, rfl, ht, at_of (j := 0) rfl rfl, ?_⟩
    refine ⟨_, rfl, rfl, _, rfl, iteFr rfl ?_⟩
    refine ⟨_, rfl, (by show 5 ≤ sizeLine; decide), fun T1 hT1 => ⟨T1, _, rfl, .inr (.inl (.inl upd_same)), rfl, rfl, _, rfl, iteFr rfl ?_⟩⟩
    have f1 : Fwd r H (upd H T1 (.tup [.str "let", .str "ring", .str "case", .str "if", .str "pick"])) := Fwd.new hT1
    have nr1 : r ≠ T1 := ne_of_none hr0 hT1
    have pre1 := pre.fwd T f1 (upd_ne nr1)
    have hr1 : (upd H T1 (.tup [.str "let", .str "ring", .str "case", .str "if", .str "pick"])) r = _ := (upd_ne nr1).trans hr0
    refine ⟨_, rfl, rfl, _, rfl, iteFr rfl ?_⟩
    generalize upd H T1 (.tup [.str "let", .str "ring", .str "case", .str "if", .str "pick"]) = H1 at f1 pre1 hr1
    refine ⟨_, rfl, r, dx, _, rfl, hr1, rfl, _, rfl, _, rfl, t, _, rfl, sqT_fwd ns f1 ht, (by intro z; exact absurd z.1 (by show ¬ (1 : Nat) = 0; decide)), fun S hS => ⟨_, rfl, ?_⟩⟩
    have f2 : Fwd r H1 (upd H1 S (.tup [x1, x2])) := Fwd.new hS
    have nr2 : r ≠ S := ne_of_none hr1 hS
    have pre2 := pre1.fwd T f2 (upd_ne nr2)
    have ns1 := pre1.run.ns
    refine ⟨r, d, S, [x1, x2], [a, b], m, k, st, rfl, pre2, .inl (.inl upd_same), .cons (dp_fwd ns1 f2 (dp_fwd ns f1 h1)) (.cons (dp_fwd ns1 f2 (dp_fwd ns f1 h2)) .nil), ?_, (by show 2 ≤ 100; decide), ?_⟩
    · intro p hp
      rcases List.mem_cons.mp hp with rfl | hp
      · exact ha
      · rw [List.mem_singleton] at hp
        exact hp ▸ hb
    rw [EV_eq, ev_call, ← EV_eq] at q
    cases e : evs (EV D most u n) [a, b] k st with
    | bad g s1 =>
      rw [e] at q
      exact fun H3 f3 => q H3 (f1.trans (f2.trans f3))
    | ok vs s1 =>
      rw [e] at q
      intro H3 m3 L us f3 run3 hm3 hL3 rep3
      obtain ⟨v, z, rfl, gs, gv, gz⟩ := evs2 (by omega) ha hb pre.lt pre.good e
      obtain ⟨⟨dx3, sp3, hr3⟩, _⟩ := id run3
      have f123 := f1.trans (f2.trans f3)
      have em3 : Ext H m m3 := Ext.refl.trans hm3 fun y hy => (f1.trans f2).non ⟨_, (upd_ne nr2).trans hr1⟩ hy
      have q : Ret K A most H r m u (EC D most u v z s1) Q E := q
      cases rep3 with
      | cons r1 rest =>
        cases rest with
        | cons r2 rest =>
          cases rest
          refine ⟨_, rfl, rfl, _, rfl, iteTr rfl ?_⟩
          refine ⟨_, rfl, r, dx3, _, rfl, hr3, rfl, _, rfl, L, _, _, _, rfl, rfl, .inl (.inl hL3), at_of (j := 0) rfl rfl, _, rfl, L, _, _, _, rfl, rfl, .inl (.inl hL3), at_of (j := 1) rfl rfl, ?_⟩
          exact ⟨r, _, _, v, z, m3, s1, rfl, run3, gs, r1, r2, gv, gz, q.imp f123 em3 ⟨_, hr3⟩⟩
  | @op _ wd a b hw ha hb =>
    obtain ⟨t, x0, x1, x2, rfl, ht, h0, h1, h2⟩ := dp_tup3 hdp
    have e0 := dp_str h0
    subst e0
    have nfun : decide (V.str wd = V.str "fun") = false := by rcases hw with rfl | rfl | rfl | rfl <;> rfl
    have nin : inV (V.str wd) [.str "let", .str "ring", .str "case", .str "if", .str "pick"] = false := by rcases hw with rfl | rfl | rfl | rfl <;> rfl
    have nmake : decide (V.str wd = V.str "make") = false := by rcases hw with rfl | rfl | rfl | rfl <;> rfl
    have ncall : decide (V.str wd = V.str "call") = false := by rcases hw with rfl | rfl | rfl | rfl <;> rfl
    have yin : inV (V.str wd) [.str "plus", .str "minus", .str "times", .str "less"] = true := by rcases hw with rfl | rfl | rfl | rfl <;> rfl
    refine ⟨_, rfl, _, _, false, rfl, tyT ht, kit_ty (r := false) (by decide +kernel), _, rfl, iteFr rfl ?_⟩
    refine ⟨_, rfl, _, _, _, _, false, rfl, .ty _, tyT ht, kit_ty (r := false) (by decide +kernel), _, rfl, iteFr rfl ?_⟩
    refine ⟨_, rfl, t, _, _, _, rfl, rfl, ht, at_of (j := 0) rfl rfl, ?_⟩
    refine ⟨_, rfl, rfl, _, rfl, iteFr nfun ?_⟩
    refine ⟨_, rfl, (by show 5 ≤ sizeLine; decide), fun T1 hT1 => ⟨T1, _, rfl, .inr (.inl (.inl upd_same)), rfl, rfl, _, rfl, iteFr nin ?_⟩⟩
    have f1 : Fwd r H (upd H T1 (.tup [.str "let", .str "ring", .str "case", .str "if", .str "pick"])) := Fwd.new hT1
    have nr1 : r ≠ T1 := ne_of_none hr0 hT1
    have pre1 := pre.fwd T f1 (upd_ne nr1)
    have hr1 : (upd H T1 (.tup [.str "let", .str "ring", .str "case", .str "if", .str "pick"])) r = _ := (upd_ne nr1).trans hr0
    refine ⟨_, rfl, rfl, _, rfl, iteFr nmake ?_⟩
    generalize upd H T1 (.tup [.str "let", .str "ring", .str "case", .str "if", .str "pick"]) = H1 at f1 pre1 hr1
    refine ⟨_, rfl, r, dx, _, rfl, hr1, rfl, _, rfl, _, rfl, t, _, rfl, sqT_fwd ns f1 ht, (by intro z; exact absurd z.1 (by show ¬ (1 : Nat) = 0; decide)), fun S hS => ⟨_, rfl, ?_⟩⟩
    have f2 : Fwd r H1 (upd H1 S (.tup [x1, x2])) := Fwd.new hS
    have nr2 : r ≠ S := ne_of_none hr1 hS
    have pre2 := pre1.fwd T f2 (upd_ne nr2)
    have ns1 := pre1.run.ns
    refine ⟨r, d, S, [x1, x2], [a, b], m, k, st, rfl, pre2, .inl (.inl upd_same), .cons (dp_fwd ns1 f2 (dp_fwd ns f1 h1)) (.cons (dp_fwd ns1 f2 (dp_fwd ns f1 h2)) .nil), ?_, (by show 2 ≤ 100; decide), ?_⟩
    · intro p hp
      rcases List.mem_cons.mp hp with rfl | hp
      · exact ha
      · rw [List.mem_singleton] at hp
        exact hp ▸ hb
    rw [EV_eq, ev_op hw, ← EV_eq] at q
    cases e : evs (EV D most u n) [a, b] k st with
    | bad g s1 =>
      rw [e] at q
      exact fun H3 f3 => q H3 (f1.trans (f2.trans f3))
    | ok vs s1 =>
      rw [e] at q
      intro H3 m3 L us f3 run3 hm3 hL3 rep3
      obtain ⟨v, z, rfl, gs, gv, gz⟩ := evs2 (by omega) ha hb pre.lt pre.good e
      obtain ⟨⟨dx3, sp3, hr3⟩, _⟩ := id run3
      have f123 := f1.trans (f2.trans f3)
      have em3 : Ext H m m3 := Ext.refl.trans hm3 fun y hy => (f1.trans f2).non ⟨_, (upd_ne nr2).trans hr1⟩ hy
      have q : Ret K A most H r m u (reck wd v z s1) Q E := q
      cases rep3 with
      | cons r1 rest =>
        cases rest with
        | cons r2 rest =>
          cases rest
          refine ⟨_, rfl, rfl, _, rfl, iteFr ncall ?_⟩
          refine ⟨_, rfl, (by show 4 ≤ sizeLine; decide), fun T2 hT2 => ⟨T2, _, rfl, .inr (.inl (.inl upd_same)), rfl, rfl, _, rfl, iteTr yin ?_⟩⟩
          have f4 : Fwd r H3 (upd H3 T2 (.tup [.str "plus", .str "minus", .str "times", .str "less"])) := Fwd.new hT2
          have nr4 : r ≠ T2 := ne_of_none hr3 hT2
          have run4 := run3.fwd T f4 (upd_ne nr4)
          have hL4 := f4 _ _ hL3 (ne_of hL3 hr3 (by intro z; cases z))
          have c4 := run3.carry T f4
          refine ⟨_, rfl, _, rfl, L, _, _, _, rfl, rfl, .inl (.inl hL4), at_of (j := 0) rfl rfl, _, rfl, L, _, _, _, rfl, rfl, .inl (.inl hL4), at_of (j := 1) rfl rfl, ?_⟩
          refine ⟨wd, _, _, v, z, m3, s1, rfl, hw, repV_carry c4 ⟨[], (List.append_nil _).symm⟩ r1, repV_carry c4 ⟨[], (List.append_nil _).symm⟩ r2, gnum gv, gnum gz, ?_⟩
          cases e2 : reck wd v z s1 with
          | bad g s2 =>
            rw [e2] at q
            exact q _ (f123.trans f4)
          | ok y s2 =>
            rw [e2] at q
            obtain ⟨rfl, j, rfl⟩ := reck_state e2
            rintro _ ⟨i, rfl, ei⟩
            cases ei
            exact q _ m3 _ (f123.trans f4) run4 em3 (.num _)
  | @iff _ c a b hc ha hb =>
    have hf : Bound (.tuple [.str "if", c, a, b]) := .inr (.inr ⟨_, rfl⟩)
    have hwf' : Wf pool (n + 1) (.tuple [.str "if", c, a, b]) := .iff hc ha hb
    obtain ⟨t, x0, x1, x2, x3, rfl, ht, h0, h1, h2, h3⟩ := dp_tup4 hdp
    have e0 := dp_str h0
    subst e0
    refine ⟨_, rfl, _, _, false, rfl, tyT ht, kit_ty (r := false) (by decide +kernel), _, rfl, iteFr rfl ?_⟩
    refine ⟨_, rfl, _, _, _, _, false, rfl, .ty _, tyT ht, kit_ty (r := false) (by decide +kernel), _, rfl, iteFr rfl ?_⟩
    refine ⟨_, rfl, t, _, _, _, rfl, rfl, ht, at_of (j := 0) rfl rfl, ?_⟩
    refine ⟨_, rfl, rfl, _, rfl, iteFr rfl ?_⟩
    refine ⟨_, rfl, (by show 5 ≤ sizeLine; decide), fun T1 hT1 => ⟨T1, _, rfl, .inr (.inl (.inl upd_same)), rfl, rfl, _, rfl, iteTr rfl ?_⟩⟩
    have f1 : Fwd r H (upd H T1 (.tup [.str "let", .str "ring", .str "case", .str "if", .str "pick"])) := Fwd.new hT1
    have nr1 : r ≠ T1 := ne_of_none hr0 hT1
    have pre1 := pre.fwd T f1 (upd_ne nr1)
    have hr1 : (upd H T1 (.tup [.str "let", .str "ring", .str "case", .str "if", .str "pick"])) r = _ := (upd_ne nr1).trans hr0
    exact ⟨_, rfl, r, dx, _, rfl, hr1, rfl, _, rfl, _, rfl, r, d, _, _, m, k, st, rfl, pre1, dp_fwd ns f1 hdp, hwf', hf, q.imp f1 Ext.refl ⟨_, hr1⟩⟩
  | @lett _ x a b hx ha hb =>
    have hf : Bound (.tuple [.str "let", .str x, a, b]) := .inl ⟨_, rfl⟩
    have hwf' : Wf pool (n + 1) (.tuple [.str "let", .str x, a, b]) := .lett hx ha hb
    obtain ⟨t, x0, x1, x2, x3, rfl, ht, h0, h1, h2, h3⟩ := dp_tup4 hdp
    have e0 := dp_str h0
    subst e0
    refine ⟨_, rfl, _, _, false, rfl, tyT ht, kit_ty (r := false) (by decide +kernel), _, rfl, iteFr rfl ?_⟩
    refine ⟨_, rfl, _, _, _, _, false, rfl, .ty _, tyT ht, kit_ty (r := false) (by decide +kernel), _, rfl, iteFr rfl ?_⟩
    refine ⟨_, rfl, t, _, _, _, rfl, rfl, ht, at_of (j := 0) rfl rfl, ?_⟩
    refine ⟨_, rfl, rfl, _, rfl, iteFr rfl ?_⟩
    refine ⟨_, rfl, (by show 5 ≤ sizeLine; decide), fun T1 hT1 => ⟨T1, _, rfl, .inr (.inl (.inl upd_same)), rfl, rfl, _, rfl, iteTr rfl ?_⟩⟩
    have f1 : Fwd r H (upd H T1 (.tup [.str "let", .str "ring", .str "case", .str "if", .str "pick"])) := Fwd.new hT1
    have nr1 : r ≠ T1 := ne_of_none hr0 hT1
    have pre1 := pre.fwd T f1 (upd_ne nr1)
    have hr1 : (upd H T1 (.tup [.str "let", .str "ring", .str "case", .str "if", .str "pick"])) r = _ := (upd_ne nr1).trans hr0
    exact ⟨_, rfl, r, dx, _, rfl, hr1, rfl, _, rfl, _, rfl, r, d, _, _, m, k, st, rfl, pre1, dp_fwd ns f1 hdp, hwf', hf, q.imp f1 Ext.refl ⟨_, hr1⟩⟩
  | @ring _ fs b h1 h2 hl hb =>
    have hf : Bound (.tuple [.str "ring", .tuple (fs.map fun f => .tuple [.str f.1, .str f.2.1, f.2.2]), b]) := .inr (.inl ⟨_, rfl⟩)
    have hwf' : Wf pool (n + 1) (.tuple [.str "ring", .tuple (fs.map fun f => .tuple [.str f.1, .str f.2.1, f.2.2]), b]) := .ring h1 h2 hl hb
    obtain ⟨t, x0, x1, x2, rfl, ht, h0, _, _⟩ := dp_tup3 hdp
    have e0 := dp_str h0
    subst e0
    refine ⟨_, rfl, _, _, false, rfl, tyT ht, kit_ty (r := false) (by decide +kernel), _, rfl, iteFr rfl ?_⟩
    refine ⟨_, rfl, _, _, _, _, false, rfl, .ty _, tyT ht, kit_ty (r := false) (by decide +kernel), _, rfl, iteFr rfl ?_⟩
    refine ⟨_, rfl, t, _, _, _, rfl, rfl, ht, at_of (j := 0) rfl rfl, ?_⟩
    refine ⟨_, rfl, rfl, _, rfl, iteFr rfl ?_⟩
    refine ⟨_, rfl, (by show 5 ≤ sizeLine; decide), fun T1 hT1 => ⟨T1, _, rfl, .inr (.inl (.inl upd_same)), rfl, rfl, _, rfl, iteTr rfl ?_⟩⟩
    have f1 : Fwd r H (upd H T1 (.tup [.str "let", .str "ring", .str "case", .str "if", .str "pick"])) := Fwd.new hT1
    have nr1 : r ≠ T1 := ne_of_none hr0 hT1
    have pre1 := pre.fwd T f1 (upd_ne nr1)
    have hr1 : (upd H T1 (.tup [.str "let", .str "ring", .str "case", .str "if", .str "pick"])) r = _ := (upd_ne nr1).trans hr0
    exact ⟨_, rfl, r, dx, _, rfl, hr1, rfl, _, rfl, _, rfl, r, d, _, _, m, k, st, rfl, pre1, dp_fwd ns f1 hdp, hwf', hf, q.imp f1 Ext.refl ⟨_, hr1⟩⟩

/-! ### the knot -/
structure Rm (P : Program) (w : World) (K : PySem.W.Frag) (mg : Str → Option Value) (base : Heap) (A : Ad) : Prop where
  c_is_number : CalN P w K mg base CX0 1 "is_number" ["value"] (spIsNum K)
  c_is_tag : CalN P w K mg base CX0 1 "is_tag" ["word"] spIsTag
  c_reckoned : CalN P w K mg base (L2N.CX P w) 2 "reckoned" ["word", "one", "other"] (spReck K A)
  k_Function : MakN P w K mg base CX0 1 "Function" A.CF ["self", "name", "phrase", "names"] (spFnI A)
/-- a method of the runner's: where it stands -/
structure MAt (K : PySem.W.Frag) (C : Addr) (m : Str) (qual : Str) (st : Stmt) (ps : List Str) : Prop where
  ex : ∃ f fd, Meth K C m f ∧ Fun K m qual st f fd ∧ Binds K fd ps []
structure Rt (K : PySem.W.Frag) (A : Ad) : Prop where
  all_of : MAt K A.CR "all_of" "Runner.all_of" s_Runner_all_of ["self", "phrases", "names"]
  called : MAt K A.CR "called" "Runner.called" s_Runner_called ["self", "function", "thing"]
  word_value : MAt K A.CR "word_value" "Runner.word_value" s_Runner_word_value ["self", "word", "names"]
  let_value : MAt K A.CR "let_value" "Runner.let_value" s_Runner_let_value ["self", "phrase", "names"]
  ring_value : MAt K A.CR "ring_value" "Runner.ring_value" s_Runner_ring_value ["self", "phrase", "names"]
  if_value : MAt K A.CR "if_value" "Runner.if_value" s_Runner_if_value ["self", "phrase", "names"]
  bound_value : MAt K A.CR "bound_value" "Runner.bound_value" s_Runner_bound_value ["self", "phrase", "names"]
  value : MAt K A.CR "value" "Runner.value" s_Runner_value ["self", "phrase", "names"]
  case_value : ∃ f fd, Meth K A.CR "case_value" f ∧ Binds K fd ["self", "phrase", "names"] []
  pick_value : ∃ f fd, Meth K A.CR "pick_value" f ∧ Binds K fd ["self", "phrase", "names"] []
theorem MAt.met {C : Addr} {m qual : Str} {st : Stmt} {ps : List Str} {CX : CXT} {n : Nat} {sp : Sp} (M : MAt K C m qual st ps) (c : Cls K C) (h : ∀ f fd, Fun K m qual st f fd → FnN P w K mg base CX n f fd ps sp) : MetN P w K mg base CX n C m ps sp := by
  obtain ⟨f, fd, a, b, d⟩ := M.ex
  exact ⟨c, f, fd, a, d, h f fd b⟩
theorem met_never {C : Addr} {m : Str} {ps : List Str} {CX : CXT} {n : Nat} (c : Cls K C) (h : ∃ f fd, Meth K C m f ∧ Binds K fd ps []) : MetN P w K mg base CX n C m ps (fun _ _ _ _ => False) := by
  obtain ⟨f, fd, a, b⟩ := h
  exact ⟨c, f, fd, a, b, FnN.never fun _ _ _ _ h => h⟩
/-- from a call to any phrase -/
theorem knot1 {u cl : Nat} (T : RT K mg A) (R : Rm P w K mg base A) (M : Rt K A) (hp : pool.length ≤ 1000) (hcl : 1 ≤ cl)
    (m_called : MetN P w K mg base (L2N.CX P w) cl A.CR "called" ["self", "function", "thing"] (spCalled K A pool D most u)) :
    ∀ n, n ≤ D → MetN P w K mg base (L2N.CX P w) (cl + 3 * n) A.CR "value" ["self", "phrase", "names"] (spVal K A pool D most u n)
  | 0, _ => M.value.met T.clR fun f fd F => FnN.never fun vs H Q E h => by
    obtain ⟨_, _, _, _, _, _, _, _, _, _, hw, _⟩ := h
    cases hw
  | n + 1, hn => by
    have m_value := knot1 T R M hp hcl m_called n (by omega)
    have m_all_of := M.all_of.met T.clR fun f fd F => ok_all_of F T (by omega) m_value
    have m_let := M.let_value.met T.clR fun f fd F => ok_let_value F T hp hn m_value
    have m_ring := M.ring_value.met T.clR fun f fd F => ok_ring_value F T hp hn R.k_Function m_value
    have m_if := M.if_value.met T.clR fun f fd F => ok_if_value F T hp hn (by omega) R.c_is_number m_value
    have m_bound := M.bound_value.met T.clR fun f fd F => ok_bound_value F T m_let m_ring m_if (met_never T.clR M.case_value) (met_never T.clR M.pick_value)
    have m_word : MetN P w K mg base (L2N.CX P w) 2 A.CR "word_value" ["self", "word", "names"] (spWord K A pool D most u) := M.word_value.met T.clR fun f fd F => ok_word_value F T R.c_is_tag
    refine M.value.met T.clR fun f fd F => ?_
    have up : ∀ {m : Str} {ps : List Str} {sp : Sp} {i j : Nat}, i ≤ j → MetN P w K mg base (L2N.CX P w) i A.CR m ps sp → MetN P w K mg base (L2N.CX P w) j A.CR m ps sp := fun {m ps sp i j} hij q => by
      obtain ⟨c, f, fd, a, b, F⟩ := q
      exact ⟨c, f, fd, a, b, F.mono hij⟩
    have := ok_value (lv := cl + 3 * n + 2) F T hn (by omega) R.c_is_number R.c_reckoned R.k_Function m_word (up (by omega) m_bound) (up (by omega) m_all_of) (up (by omega) m_called)
    exact this
theorem knot (T : RT K mg A) (R : Rm P w K mg base A) (M : Rt K A) (hp : pool.length ≤ 1000) :
    ∀ u, u ≤ 10 → MetN P w K mg base (L2N.CX P w) (u * (3 * D + 1) + 1) A.CR "called" ["self", "function", "thing"] (spCalled K A pool D most u)
  | 0, h => M.called.met T.clR fun f fd F => (ok_called (lv := 0) F T hp h (met_never T.clR (by obtain ⟨f, fd, a, _, b⟩ := M.value.ex; exact ⟨f, fd, a, b⟩)) (fun u' e => by cases e)).mono (by omega)
  | u + 1, h => by
    have m_called := knot T R M hp u (by omega)
    have m_value := knot1 T R M hp (by omega) m_called D (Nat.le_refl _)
    refine M.called.met T.clR fun f fd F => ?_
    have := ok_called (u := u + 1) F T hp h m_value fun u' e => by
      cases e
      rfl
    refine this.mono ?_
    rw [Nat.add_mul]
    omega
theorem value_ok (T : RT K mg A) (R : Rm P w K mg base A) (M : Rt K A) (hp : pool.length ≤ 1000) {n : Nat} (hn : n ≤ D) :
    MetN P w K mg base (L2N.CX P w) (10 * (3 * D + 1) + 1 + 3 * n) A.CR "value" ["self", "phrase", "names"] (spVal K A pool D most 10 n) :=
  knot1 T R M hp (by omega) (knot T R M hp 10 (Nat.le_refl _)) n hn
end
end FW

set_option Elab.async false
set_option linter.all false
set_option maxRecDepth 100000
set_option maxHeartbeats 8000000
/-! R7: the runner is made; nothing is declared; run. -/
namespace FW
open PySem PySem.Spec PyProof.Rows L2

section
variable {P : Program} {w : World} {K : PySem.W.Frag} {mg : Str → Option Value} {base : Heap} {A : Ad} {f : Addr} {fd : FuncData} {pool : List Str} {D : Nat}

/-- a program with a main alone -/
def mainP (ph : PyData) : PyData := .tuple [.tuple [.str "main", ph]]
theorem dp_main {H : Hp} {v : V} {ph : PyData} (h : Dq K H v (mainP ph)) : ∃ t t1 pv, v = .ref t ∧ SqT K H t [.ref t1] ∧ SqT K H t1 [.str "main", pv] ∧ Dq K H pv ph := by
  obtain ⟨t, xs, rfl, ht, hd⟩ := dp_tup h
  cases hd with
  | cons h0 r =>
    cases r
    obtain ⟨t1, ys, rfl, ht1, hd1⟩ := dp_tup h0
    cases hd1 with
    | cons g0 r =>
      cases r with
      | cons g1 r =>
        cases r
        have e0 := dp_str g0
        subst e0
        exact ⟨t, t1, _, rfl, ht, ht1, g1⟩

/-- all stays -/
def Kps (H H' : Hp) : Prop := ∀ p o, H p = some o → H' p = some o
theorem Kps.refl (H : Hp) : Kps H H := fun _ _ h => h
theorem Kps.trans {H H1 H2 : Hp} (a : Kps H H1) (b : Kps H1 H2) : Kps H H2 := fun p o h => b p o (a p o h)
theorem Kps.new {H : Hp} {p : Addr} {o : HO} (h : H p = none) : Kps H (upd H p o) := fun b u q => by
  rw [upd_ne (ne_of_none q h)]
  exact q
theorem Kps.late {H H' : Hp} {p : Addr} {o : HO} (f : Kps H H') (h : H p = none) : Kps H (upd H' p o) := fun b u q => by
  rw [upd_ne (ne_of_none q h)]
  exact f b u q
theorem Kps.fwd {H H' : Hp} (k : Kps H H') (r : Addr) : Fwd r H H' := fun p o h _ => k p o h
theorem sqT_kps {H H' : Hp} {a : Addr} {xs : List V} (f : Kps H H') (h : SqT K H a xs) : SqT K H' a xs := by
  rcases h with (h | ⟨q, h⟩) | h
  · exact .inl (.inl (f _ _ h))
  · exact .inl (.inr ⟨q, f _ _ h⟩)
  · exact .inr h
mutual
theorem dp_kps {H H' : Hp} (f : Kps H H') : ∀ {v : V} {d : PyData}, Dq K H v d → Dq K H' v d
  | _, _, .int i => .int i
  | _, _, .str x => .str x
  | _, _, .tup h t => .tup (sqT_kps f h) (dps_kps f t)
theorem dps_kps {H H' : Hp} (f : Kps H H') : ∀ {vs : List V} {ds : List PyData}, DqAll K H vs ds → DqAll K H' vs ds
  | _, _, .nil => .nil
  | _, _, .cons h t => .cons (dp_kps f h) (dps_kps f t)
end

section
variable {X : Cx}
theorem pss_dead {st : List Stmt} : PSs X st (fun _ _ _ => False) := ⟨fun _ _ _ _ _ _ h => h.elim⟩
end
/-! ### field_spots -/
abbrev s_field_spots : Stmt := top 10
def N_field_spots : List Str := ["program", "found", "declaration", "place", "field"]
theorem sc_field_spots : FnScope N_field_spots ["program"] (defScope s_field_spots) := ⟨rfl, rfl, rfl, by decide +kernel, rfl, by decide +kernel, by decide +kernel⟩
def spSpots (K : PySem.W.Frag) : Sp := fun vs H Q _ => ∃ (v : V) (ph : PyData), vs = [v] ∧ Dq K H v (mainP ph) ∧ ∀ L, H L = none → Q (.ref L) (upd H L (.dK []))
theorem ok_field_spots (F : Fun K "field_spots" "field_spots" s_field_spots f fd) (T : RT K mg A) : FnOk P w K mg base CX0 1 f fd ["program"] (spSpots K) := by
  refine F.ok sc_field_spots (fun vs H Q E h => ?_) (fun cdv A' outer s H vs Q E hr h => ?_)
  · obtain ⟨_, _, rfl, _⟩ := h
    rfl
  obtain ⟨v, ph, rfl, hdp, q⟩ := h
  obtain ⟨t, t1, pv', rfl, ht, ht1, hpv⟩ := dp_main hdp
  refine ⟨_, (pss_cons (ps_set (i := 1) sc_field_spots.nd rfl (Or.inl rfl) pe_dnewK)
  (pss_cons (ps_for PassesOwn.never rfl (pi_tup (pv 0)) (pg_name (i := 2) sc_field_spots.nd rfl (.inl rfl))
    (pss_one (ps_if (pt_cmpR op_eq (pe_ix ix_tup (pv 2) pe_int (fun _ _ => rfl)) pe_str (nomark _))
      pss_dead
      pss_nil)))
  (pss_one (ps_ret (pv 1))))), ?_⟩
  intro L hL
  have keep : ∀ {a : Addr} {xs : List V}, SqT K H a xs → SqT K (upd H L (.dK [])) a xs := sqT_kps (Kps.new hL)
  refine ⟨_, rfl, t, rfl, ⟨[.ref t1], keep ht⟩, for_tup (K := K) (a := t) (xs := [.ref t1]) (fun i σ H' => ∃ o, σ = [some (.ref t), some (.ref L), o, none, none] ∧ H' = upd H L (.dK []))
    ⟨none, rfl, rfl⟩ ?_ ?_ ?_⟩
  · rintro i σ H' _ ⟨_, _, rfl⟩
    exact keep ht
  · rintro i y σ H' hi ⟨o, rfl, rfl⟩
    have ey : y = .ref t1 := by
      cases i with
      | zero => cases hi; rfl
      | succ i => cases hi
    subst ey
    refine ⟨_, rfl, t1, _, _, _, rfl, rfl, keep ht1, at_of (j := 0) rfl rfl, rfl, _, rfl, iteFr (by decide +kernel) ?_⟩
    exact ⟨_, rfl, rfl⟩
  · rintro σ H' ⟨o, rfl, rfl⟩
    exact ⟨_, rfl, q L hL⟩

/-! ### Runner.__init__ -/
abbrev s_Runner___init__ : Stmt := inClass (top 15) 0
def N_Runner___init__ : List Str := ["self", "program", "most"]
theorem sc_Runner___init__ : FnScope N_Runner___init__ ["self", "program", "most"] (defScope s_Runner___init__) := ⟨rfl, rfl, rfl, by decide +kernel, rfl, by decide +kernel, by decide +kernel⟩
def maxI (n : Int) : Int := if n > 0 then n else 0
def spRunnerI (K : PySem.W.Frag) (A : Ad) : Sp := fun vs H Q _ => ∃ (a dx : Addr) (v : V) (ph : PyData) (n : Int), vs = [.ref a, v, .int n] ∧ H a = some (.ins A.CR dx []) ∧ Dq K H v (mainP ph) ∧
  ∀ L, H L = none → Q .non (upd (upd H L (.dK [])) a (.ins A.CR dx (rF (.ref L) (maxI n) 0 0)))
theorem ok_Runner___init__ (F : Fun K "__init__" "Runner.__init__" s_Runner___init__ f fd) (T : RT K mg A) {f1 : Addr} {fd1 : FuncData} (F1 : FnOk P w K mg base CX0 1 f1 fd1 ["program"] (spSpots K)) (g1 : mg "field_spots" = some (.ref f1)) (kp1 : PySem.W.keepIn K (.ref f1) = true) (b1 : Binds K fd1 ["program"] []) :
    FnOk P w K mg base CX0 2 f fd ["self", "program", "most"] (spRunnerI K A) := by
  refine F.ok sc_Runner___init__ (fun vs H Q E h => ?_) (fun cdv A' outer s H vs Q E hr h => ?_)
  · obtain ⟨_, _, _, _, _, rfl, _⟩ := h
    rfl
  obtain ⟨a, dx, v, ph, n, rfl, h, hdp, q⟩ := h
  refine ⟨_, (pss_cons (ps_fld (pv 0) (pe_call F1 hr (by rfl) g1 kp1 b1 .nil pass0 (pa_cons (pv 1) pa_nil)) rfl)
  (pss_cons (ps_fld (pv 0) (pe_callB (call_max2 rfl) (by rfl) T.z_max (by decide +kernel) (pa_cons pe_int (pa_cons (pv 2) pa_nil))) rfl)
  (pss_cons (ps_fld (pv 0) pe_int rfl)
  (pss_one (ps_fld (pv 0) pe_int rfl))))), ?_⟩
  refine ⟨_, rfl, v, ph, rfl, hdp, fun L hL => ?_⟩
  have naL : a ≠ L := ne_of_none h hL
  refine ⟨_, rfl, a, _, dx, _, rfl, (by rw [upd_ne naL]; exact h), T.clR, T.n_spots, by decide, ?_⟩
  refine ⟨_, rfl, _, _, rfl, _, rfl, a, _, dx, _, rfl, upd_same, T.clR, T.n_most, by (show 1 < 1000; decide), ?_⟩
  refine ⟨_, rfl, a, _, dx, _, rfl, upd_same, T.clR, T.n_begun, by (show 2 < 1000; decide), ?_⟩
  refine ⟨_, rfl, a, _, dx, _, rfl, upd_same, T.clR, T.n_under, by (show 3 < 1000; decide), ?_⟩
  rw [upd_upd, upd_upd, upd_upd]
  exact q L hL

/-! ### declared: of nothing -/
abbrev s_declared : Stmt := top 18
def N_declared : List Str := ["runner", "declarations", "paths", "makers", "declaration", "word", "maker", "inner"]
theorem sc_declared : FnScope N_declared ["runner", "declarations"] (defScope s_declared) := ⟨rfl, rfl, rfl, by decide +kernel, rfl, by decide +kernel, by decide +kernel⟩
def spDecl (K : PySem.W.Frag) : Sp := fun vs H Q _ => ∃ (v : V) (t : Addr), vs = [v, .ref t] ∧ SqT K H t [] ∧
  ∀ L H', H L = none → H' L = some (.dK []) → Kps H H' → Q (.ref L) H'
theorem ok_declared (F : Fun K "declared" "declared" s_declared f fd)
    (c_put_part : CalN P w K mg base CX0 1 "put_part" ["paths", "part", "vals"] (fun _ _ _ _ => False))
    (c_given_paths : CalN P w K mg base CX0 1 "given_paths" ["paths", "givers", "parts"] (fun _ _ _ _ => False))
    (m_worked_vals : MetN P w K mg base CX0 1 A.CR "worked_vals" ["self", "body", "paths"] (fun _ _ _ _ => False)) :
    FnN P w K mg base CX0 2 f fd ["runner", "declarations"] (spDecl K) := by
  refine okN0 F sc_declared (fun vs H Q E h => ?_) (fun cdv A' outer s H vs Q E hr h => ?_)
  · obtain ⟨_, _, rfl, _⟩ := h
    rfl
  obtain ⟨v, t, rfl, ht, q⟩ := h
  have hu := hr.hu
  refine ⟨_, (pss_cons (ps_set (i := 2) sc_declared.nd rfl (Or.inl rfl) pe_dnewK)
  (pss_cons (ps_set (i := 3) sc_declared.nd rfl (Or.inl rfl) pe_dnewK)
  (pss_cons (ps_for PassesOwn.never rfl (pi_tup (pv 1)) (pg_name (i := 4) sc_declared.nd rfl (.inl rfl))
    (pss_cons (ps_set (i := 5) sc_declared.nd rfl (Or.inl rfl) (pe_ix ix_tup (pv 4) pe_int (fun _ _ => rfl)))
    (pss_one (ps_if (pt_cmpR op_eq (pv 5) pe_str (nomark _))
      (pss_one (ps_expr (pe_cN c_put_part hr (by rfl) pass0 (pa_cons (pv 2) (pa_cons (pe_ix ix_tup (pv 4) pe_int (fun _ _ => rfl)) (pa_cons (pe_mN m_worked_vals (pv 0) hr pass0 (pa_cons (pe_slice sl_tup (pv 4) (po_some pe_int) po_none) (pa_cons (pv 2) pa_nil))) pa_nil))))))
      (pss_one (ps_if (pt_cmpR op_eq (pv 5) pe_str (nomark _))
        (pss_one (ps_dput hu (pv 3) (pe_ix ix_tup (pv 4) pe_int (fun _ _ => rfl)) (pv 4) rfl))
        (pss_one (ps_if (pt_cmpR op_eq (pv 5) pe_str (nomark _))
          (pss_cons (ps_set (i := 6) sc_declared.nd rfl (Or.inl rfl) (pe_ix ix_tup (pv 3) (pe_ix ix_tup (pv 4) pe_int (fun _ _ => rfl)) (fun _ _ => rfl)))
          (pss_cons (ps_set (i := 7) sc_declared.nd rfl (Or.inl rfl) (pe_cN c_given_paths hr (by rfl) pass0 (pa_cons (pv 2) (pa_cons (pe_ix ix_tup (pv 6) pe_int (fun _ _ => rfl)) (pa_cons (pe_slice sl_tup (pv 4) (po_some pe_int) po_none) pa_nil)))))
          (pss_one (ps_expr (pe_cN c_put_part hr (by rfl) pass0 (pa_cons (pv 2) (pa_cons (pe_ix ix_tup (pv 4) pe_int (fun _ _ => rfl)) (pa_cons (pe_mN m_worked_vals (pv 0) hr pass0 (pa_cons (pe_slice sl_tup (pv 6) (po_some pe_int) po_none) (pa_cons (pv 7) pa_nil))) pa_nil))))))))
          pss_nil))))))))
  (pss_one (ps_ret (pv 2)))))), ?_⟩
  intro L hL L2 hL2
  have fw : Kps H (upd (upd H L (.dK [])) L2 (.dK [])) := (Kps.new hL).trans (Kps.new hL2)
  have hLL : upd (upd H L (.dK [])) L2 (.dK []) L = some (.dK []) := by
    have e2 : L ≠ L2 := ne_of_none (show (upd H L (.dK [])) L = some (.dK []) from upd_same) hL2
    rw [upd_ne e2]
    exact upd_same
  have keep := sqT_kps fw ht
  refine ⟨_, rfl, t, rfl, ⟨[], keep⟩, for_tup (K := K) (a := t) (xs := []) (fun i σ H' => σ = [some v, some (.ref t), some (.ref L), some (.ref L2), none, none, none, none] ∧ H' = upd (upd H L (.dK [])) L2 (.dK []))
    ⟨rfl, rfl⟩ ?_ ?_ ?_⟩
  · rintro i σ H' _ ⟨_, rfl⟩
    exact keep
  · rintro i y σ H' hi
    cases hi
  · rintro σ H' ⟨rfl, rfl⟩
    exact ⟨_, rfl, q L _ hL hLL fw⟩
end
end FW

set_option Elab.async false
set_option linter.all false
set_option maxRecDepth 100000
set_option maxHeartbeats 8000000
/-! R8: run. -/
namespace FW
open PySem PySem.Spec PyProof.Rows L2

section
variable {P : Program} {w : World} {K : PySem.W.Frag} {mg : Str → Option Value} {base : Heap}
/-- a def with defaults that may raise, by its body -/
theorem okND {x qual : Str} {st : Stmt} {f : Addr} {fd : FuncData} {N ps : List Str} {n : Nat} {sp : Sp} {dvs : List V} {kws : List (Str × V)} (F : FunD K x qual (defArgs st) (defBody st) (defScope st) dvs kws f fd) (S : FnScope N ps (defScope st)) (len : ∀ vs H Q E, sp vs H Q E → vs.length = ps.length)
    (hbody : ∀ (cdv : Value) (A : Around) (outer : List PySem.Env) (s : Shared) (H : Hp) (vs : List V) (Q : VK) (E : XK), RoomN n (A.deeper (envOfC qual (defScope st) s.heap.objs.size f cdv)) → sp vs H Q E →
      ∃ t, PSs (cxOf (L2N.CX P w) P w K mg base N qual (defScope st) f cdv A outer s H E) (defBody st) t ∧ t { nx := fun _ H' => Q .non H', rt := Q } (start N vs) H) :
    FnN P w K mg base (L2N.CX P w) (n + 1) f fd ps sp := by
  obtain ⟨oc, od, dV, kV, doc, pm, an, cdv, ct, osl, rfl, lk, hcd, _, _⟩ := F.ex
  exact fnN_of lk hcd S len fun A outer s H vs Q E hr hsp => hbody cdv A outer s H vs Q E hr hsp
end

section
variable {P : Program} {w : World} {K : PySem.W.Frag} {mg : Str → Option Value} {base : Heap} {A : Ad} {f : Addr} {fd : FuncData} {pool : List Str} {D : Nat}
def st0 : MS := ⟨[[]], 0⟩
theorem good0 : GoodS pool D st0 := ⟨fun e he => by
  rw [show st0.envs = [[]] from rfl, List.mem_singleton] at he
  subst he
  exact ⟨List.nodup_nil, fun p hp => by cases hp⟩⟩
/-- what a main comes to -/
def ranO (D : Nat) (n : Int) (ph : PyData) : Out Val := EV D (maxI n) 10 D ph 0 st0
def spRun (K : PySem.W.Frag) (A : Ad) (pool : List Str) (D : Nat) : Sp := fun vs H Q E => ∃ (v : V) (ph : PyData) (n : Int), vs = [v, .int n] ∧ Dq K H v (mainP ph) ∧ Wf pool D ph ∧
  ∀ H', Kps H H' → match ranO D n ph with
    | .ok (.num i) _ => Q (.int i) H'
    | .ok _ _ => E (.ref A.CS) none H'
    | .bad g _ => E (.ref (A.exc g)) none H'
theorem Fwd.kps {r : Addr} {H H' : Hp} (f : Fwd r H H') (h : H r = Option.none) : Kps H H' := fun p o q => f p o q (ne_of_none q h)

abbrev s_run : Stmt := top 19
def N_run : List Str := ["program", "most", "runner", "paths", "found"]
theorem sc_run : FnScope N_run ["program", "most"] (defScope s_run) := ⟨rfl, rfl, rfl, by decide +kernel, rfl, by decide +kernel, by decide +kernel⟩
theorem ok_run {lv : Nat} {dvs : List V} {kws : List (Str × V)} (F : FunD K "run" "run" (defArgs s_run) (defBody s_run) (defScope s_run) dvs kws f fd) (T : RT K mg A) (hlv : 3 ≤ lv)
    (k_Runner : MakN P w K mg base CX0 2 "Runner" A.CR ["self", "program", "most"] (spRunnerI K A))
    (c_declared : CalN P w K mg base CX0 2 "declared" ["runner", "declarations"] (spDecl K))
    (c_is_number : CalN P w K mg base CX0 1 "is_number" ["value"] (spIsNum K))
    (m_value : ∀ n, MetN P w K mg base (L2N.CX P w) lv A.CR "value" ["self", "phrase", "names"] (spVal K A pool D (maxI n) 10 D)) :
    FnN P w K mg base (L2N.CX P w) (lv + 1) f fd ["program", "most"] (spRun K A pool D) := by
  refine okND F sc_run (fun vs H Q E h => ?_) (fun cdv A' outer s H vs Q E hr h => ?_)
  · obtain ⟨_, _, _, rfl, _⟩ := h
    rfl
  obtain ⟨v, ph, n, rfl, hdp, hwf, q⟩ := h
  have tk := L2N.takes_of (X := cxOf (L2N.CX P w) P w K mg base N_run "run" (defScope s_run) f cdv A' outer s H E) (E := E) rfl rfl rfl rfl
  have pX := pX_of tk
  refine ⟨_, (pss_cons (ps_set (i := 2) sc_run.nd rfl (Or.inl rfl) (pe_kN k_Runner hr rfl pass0 (pa_cons (pv 0) (pa_cons (pv 1) pa_nil))))
  (pss_cons (ps_set (i := 3) sc_run.nd rfl (Or.inl rfl) (pe_cN c_declared hr (by rfl) pass0 (pa_cons (pv 2) (pa_cons (pe_slice sl_tup (pv 0) po_none (po_some (pe_un un_neg pe_int))) pa_nil))))
  (pss_cons (ps_set (i := 4) sc_run.nd rfl (Or.inl rfl) (pe_mN (m_value n) (pv 2) hr pX (pa_cons (pe_ix ix_tup (pe_ix ix_tup (pv 0) (pe_un un_neg pe_int) (fun _ _ => rfl)) pe_int (fun _ _ => rfl)) (pa_cons (pv 3) pa_nil))))
  (pss_cons (ps_if (pt_not (pt_val (pe_cN c_is_number hr (by rfl) pass0 (pa_cons (pv 4) pa_nil))))
    (pss_one (L2N.ps_raise rfl tk (mkE T.x_Stuck rfl)))
    pss_nil)
  (pss_one (ps_ret (pv 4))))))), ?_⟩
  obtain ⟨t, t1, pv', rfl, ht, ht1, hpv⟩ := dp_main hdp
  -- Runner(program, most)
  refine ⟨_, rfl, _, rfl, fun r dx nr nd nrd => ?_⟩
  have k1 : Kps H (upd (upd H dx (.own r)) r (.ins A.CR dx [])) := (Kps.new nd).trans (Kps.new (by rw [upd_ne nrd.symm]; exact nr))
  have h1 : upd (upd H dx (.own r)) r (.ins A.CR dx []) r = some (.ins A.CR dx []) := upd_same
  generalize upd (upd H dx (.own r)) r (.ins A.CR dx []) = H1 at k1 h1
  refine ⟨r, dx, _, ph, n, rfl, h1, dp_kps k1 hdp, fun L hL => ⟨rfl, ?_⟩⟩
  have nrL : r ≠ L := ne_of_none h1 hL
  have f2 : Fwd r H1 (upd (upd H1 L (.dK [])) r (.ins A.CR dx (rF (.ref L) (maxI n) 0 0))) := (Fwd.new hL).trans Fwd.own
  have k2 : Kps H (upd (upd H1 L (.dK [])) r (.ins A.CR dx (rF (.ref L) (maxI n) 0 0))) := fun p o h => f2 p o (k1 p o h) (ne_of_none h nr)
  have h2 : upd (upd H1 L (.dK [])) r (.ins A.CR dx (rF (.ref L) (maxI n) 0 0)) r = some (.ins A.CR dx (rF (.ref L) (maxI n) 0 0)) := upd_same
  generalize upd (upd H1 L (.dK [])) r (.ins A.CR dx (rF (.ref L) (maxI n) 0 0)) = H2 at k2 h2
  -- declared(runner, program[:-1])
  refine ⟨_, rfl, _, rfl, 1, rfl, _, rfl, t, _, rfl, sqT_kps k2 ht, (by intro z; exact absurd z.2 (by show ¬ (0 : Nat) = 1; decide)), fun S hS => ?_⟩
  have k3 : Kps H2 (upd H2 S (.tup [])) := Kps.new hS
  refine ⟨_, S, rfl, .inl (.inl upd_same), fun d H3 hd hd3 k4 => ?_⟩
  have k24 := k3.trans k4
  have h3 := k24 _ _ h2
  have nd2 : H2 d = none := by
    cases z : H2 d with
    | none => rfl
    | some o =>
      have z2 : upd H2 S (.tup []) d = some o := k3 _ _ z
      have hd : upd H2 S (.tup []) d = none := hd
      rw [z2] at hd
      cases hd
  have ndr : d ≠ r := (ne_of_none h2 nd2).symm
  have run3 : RunAt K A (maxI n) H3 r [d] 10 st0 := by
    refine ⟨⟨dx, .ref L, h3⟩, rfl, fun k e he => ?_⟩
    cases k with
    | zero =>
      cases he
      exact ⟨ndr, [], hd3, .nil⟩
    | succ k => cases he
  have pre : Pre K A pool D (maxI n) H3 r [d] 10 st0 d 0 := ⟨run3, good0, rfl⟩
  have k34 := k2.trans k24
  -- runner.value(program[-1][1], paths)
  refine ⟨_, rfl, r, dx, _, rfl, h3, rfl, _, rfl, 1, rfl, t, _, _, _, rfl, rfl, sqT_kps k34 ht, atI_last [] _, t1, _, _, _, rfl, rfl, sqT_kps k34 ht1, at_of (j := 1) rfl rfl, _, rfl, ?_⟩
  refine ⟨r, d, pv', ph, [d], 0, st0, rfl, pre, dp_kps k34 hpv, hwf, trivial, ?_⟩
  have q : ∀ H', Kps H H' → match EV D (maxI n) 10 D ph 0 st0 with
    | .ok (.num i) _ => Q (.int i) H'
    | .ok _ _ => E (.ref A.CS) none H'
    | .bad g _ => E (.ref (A.exc g)) none H' := q
  have hk : ∀ {H'}, Fwd r H3 H' → Kps H H' := fun {H'} f p o h => f p o (k34 p o h) (ne_of_none h nr)
  cases e : EV D (maxI n) 10 D ph 0 st0 with
  | bad g s1 =>
    rw [e] at q
    exact fun H' f => q H' (hk f)
  | ok x s1 =>
    rw [e] at q
    intro H' m' y f run' hm' rep
    obtain ⟨ty, tyy, ky⟩ := rep_int T rep
    refine ⟨_, rfl, y, ty, _, rfl, tyy, ky, _, rfl, ?_⟩
    cases x with
    | num i =>
      cases rep
      exact iteF ⟨_, rfl, q H' (hk f)⟩
    | blk w' vs => exact iteT (q H' (hk f))
    | fn x' b' k' => exact iteT (q H' (hk f))
end
end FW

set_option Elab.async false
set_option linter.all false
set_option maxRecDepth 100000
set_option maxHeartbeats 8000000
/-! L1: the law's own walk: its world, faults, sums. -/
namespace FW
open PySem PySem.Spec PyProof.Rows L2

structure LT (mg : Str → Option Value) : Prop where
  z_isinstance : mg "isinstance" = none
  z_int : mg "int" = none
  z_str : mg "str" = none
  z_tuple : mg "tuple" = none
  z_list : mg "list" = none
  z_bool : mg "bool" = none
  z_abs : mg "abs" = none
  z_dict : mg "dict" = none
  z_max : mg "max" = none
  z_sum : mg "sum" = none
  z_zip : mg "zip" = none
  z_enumerate : mg "enumerate" = none
  z_range : mg "range" = none
  z_len : mg "len" = none

/-- a function of the law's -/
def FRl : FRT := fun H a x pb d => H a = some (.lst [.str x, pb, .ref d])
def wF (sp : V) (wd : Str) (mo b un : Int) : List (L2.Key × V) := [(Sum.inr "most", .int mo), (Sum.inr "begun", .int b), (Sum.inr "under", .int un), (Sum.inr "word", .str wd), (Sum.inr "spots", sp)]
def fName : Fault → Str
  | .stuck => "stuck"
  | .great => "great"
  | .long => "long"
  | .deep => "deep"
theorem fName_ne (g : Fault) : fName g ≠ "" := by cases g <;> decide +kernel
section
variable {H : Hp} {r : Addr} {sp : V} {wd : Str} {mo b un : Int}
theorem gMost (h : H r = some (.dK (wF sp wd mo b un))) : DGet H r (.str "most") (some (.int mo)) := .inl ⟨_, Sum.inr "most", .inl h, rfl, rfl⟩
theorem gBegun (h : H r = some (.dK (wF sp wd mo b un))) : DGet H r (.str "begun") (some (.int b)) := .inl ⟨_, Sum.inr "begun", .inl h, rfl, rfl⟩
theorem gUnder (h : H r = some (.dK (wF sp wd mo b un))) : DGet H r (.str "under") (some (.int un)) := .inl ⟨_, Sum.inr "under", .inl h, rfl, rfl⟩
theorem gWord (h : H r = some (.dK (wF sp wd mo b un))) : DGet H r (.str "word") (some (.str wd)) := .inl ⟨_, Sum.inr "word", .inl h, rfl, rfl⟩
theorem pBegun (h : H r = some (.dK (wF sp wd mo b un))) (n : Int) : DPut H r (.str "begun") (.int n) (upd H r (.dK (wF sp wd mo n un))) := .inl ⟨_, Sum.inr "begun", h, rfl, (by show 5 < sizeLine; decide), rfl⟩
theorem pUnder (h : H r = some (.dK (wF sp wd mo b un))) (n : Int) : DPut H r (.str "under") (.int n) (upd H r (.dK (wF sp wd mo b n))) := .inl ⟨_, Sum.inr "under", h, rfl, (by show 5 < sizeLine; decide), rfl⟩
theorem pWord (h : H r = some (.dK (wF sp wd mo b un))) (n : Str) : DPut H r (.str "word") (.str n) (upd H r (.dK (wF sp n mo b un))) := .inl ⟨_, Sum.inr "word", h, rfl, (by show 5 < sizeLine; decide), rfl⟩
end

/-- a dict's cell as a text's or a number's key: the state -/
structure LAt (K : PySem.W.Frag) (most : Int) (H : Hp) (r : Addr) (m : List Addr) (u : Nat) (s : MS) : Prop where
  ob : ∃ sp, H r = some (.dK (wF sp "" most s.begun (10 - (u : Int))))
  ev : EnvsAt K FRl r H m s.envs
/-- behind a fault -/
def Dead (H : Hp) (r : Addr) (wd : Str) : Prop := wd ≠ "" ∧ ∃ sp mo b un, H r = some (.dK (wF sp wd mo b un))
/-- what comes of a phrase then -/
inductive BadV : V → Prop
  | non : BadV .non
  | int (i : Int) : BadV (.int i)
def RetW (K : PySem.W.Frag) (most : Int) (H : Hp) (r : Addr) (m : List Addr) (u : Nat) (o : Out Val) (Q : VK) : Prop :=
  match o with
  | .ok v s' => ∀ (H' : Hp) (m' : List Addr) (x : V), Fwd r H H' → LAt K most H' r m' u s' → Ext H m m' → RepV K FRl H' m' x v → Q x H'
  | .bad g _ => ∀ (H' : Hp) (x : V), Fwd r H H' → Dead H' r (fName g) → BadV x → Q x H'
structure LPre (K : PySem.W.Frag) (pool : List Str) (D : Nat) (most : Int) (H : Hp) (r : Addr) (m : List Addr) (u : Nat) (s : MS) (d : Addr) (k : Nat) : Prop where
  run : LAt K most H r m u s
  good : GoodS pool D s
  ix : m[k]? = some d
/-- values that may stand in a phrase's place -/
inductive Okv (K : PySem.W.Frag) (H : Hp) : V → Prop
  | non : Okv K H .non
  | int (i : Int) : Okv K H (.int i)
  | tup {a : Addr} {xs : List V} : SqT K H a xs → Okv K H (.ref a)
  | lst {a : Addr} {us : List V} : H a = some (.lst us) → Okv K H (.ref a)

section
variable {P : Program} {w : World} {K : PySem.W.Frag} {mg : Str → Option Value} {base : Heap} {f : Addr} {fd : FuncData} {pool : List Str} {D : Nat} {most : Int}
section
variable {H H' : Hp} {r d : Addr} {m : List Addr} {u k : Nat} {s : MS}
theorem noSeqD {kvs : List (L2.Key × V)} (h : H r = some (.dK kvs)) : NoSeq H r := ⟨_, h, by intro; simp, by intro _ _; simp⟩
theorem noSeqL {kvs : List V} (h : H r = some (.lst kvs)) : NoSeq H r := ⟨_, h, by intro; simp, by intro _ _; simp⟩
theorem carryD {kvs : List (L2.Key × V)} (h : H r = some (.dK kvs)) (f : Fwd r H H') : Carry K FRl r H H' :=
  ⟨noSeqD h, f, fun a x pb d q => f _ _ q (ne_of q h (by intro z; cases z))⟩
theorem LAt.ns (R : LAt K most H r m u s) : NoSeq H r := by
  obtain ⟨⟨sp, h⟩, _⟩ := R
  exact noSeqD h
theorem LAt.carry (R : LAt K most H r m u s) (f : Fwd r H H') : Carry K FRl r H H' := by
  obtain ⟨⟨sp, h⟩, _⟩ := R
  exact carryD h f
theorem LAt.fwd (R : LAt K most H r m u s) (f : Fwd r H H') (e : H' r = H r) : LAt K most H' r m u s :=
  ⟨by rw [e]; exact R.ob, envsAt_carry (R.carry f) R.ev⟩
theorem LPre.env (h : LPre K pool D most H r m u s d k) : d ≠ r ∧ ∃ kvs, H d = some (.dK kvs) ∧ KVR K FRl H m kvs (s.env k) := h.run.ev.at_ k d h.ix
theorem LPre.lt (h : LPre K pool D most H r m u s d k) : k < s.envs.length := by
  rw [← h.run.ev.len]
  exact (List.getElem?_eq_some_iff.mp h.ix).1
theorem LPre.size (h : LPre K pool D most H r m u s d k) (hp : pool.length ≤ 1000) {kvs : List (L2.Key × V)} (q : KVR K FRl H m kvs (s.env k)) : kvs.length < sizeLine := by
  rw [kvr_len q]
  exact small1000 (Nat.le_trans (h.good.env k).len hp)
theorem Okv.fwd {kvs : List (L2.Key × V)} (h0 : H r = some (.dK kvs)) (f : Fwd r H H') {x : V} (h : Okv K H x) : Okv K H' x := by
  cases h with
  | non => exact .non
  | int i => exact .int i
  | tup h => exact .tup (sqT_fwd (noSeqD h0) f h)
  | lst h => exact .lst (f _ _ h (ne_of h h0 (by intro z; cases z)))
theorem Okv.list {L : Addr} {us us' : List V} (h0 : H L = some (.lst us)) {x : V} (h : Okv K H x) : Okv K (upd H L (.lst us')) x := by
  cases h with
  | non => exact .non
  | int i => exact .int i
  | tup h => exact .tup (sqT_fwd (noSeqL h0) Fwd.own h)
  | @lst a us h =>
    by_cases e : a = L
    · subst e
      exact .lst upd_same
    · exact .lst (by rw [upd_ne e]; exact h)
theorem RepV.ok {x : V} {v : Val} (h : RepV K FRl H m x v) : Okv K H x := by
  cases h with
  | num i => exact .int i
  | blk h _ => exact .tup h
  | fn h _ _ => exact .lst h
theorem BadV.ok {x : V} (h : BadV x) : Okv K H x := by
  cases h with
  | non => exact .non
  | int i => exact .int i
theorem tyL {a : Addr} {us : List V} (h : H a = some (.lst us)) : TyX K H (.ref a) (.type "list") := .base (.lst h)
theorem Okv.isList {x : V} (h : Okv K H x) : ∃ t b, TyX K H x t ∧ PySem.W.kitOne K t (.type "list") = some b := by
  cases h with
  | non => exact ⟨_, _, .base .non, kit_ty (r := false) (by decide +kernel)⟩
  | int i => exact ⟨_, _, .base (.int i), kit_ty (r := false) (by decide +kernel)⟩
  | tup h => exact ⟨_, _, tyT h, kit_ty (r := false) (by decide +kernel)⟩
  | lst h => exact ⟨_, _, tyL h, kit_ty (r := true) (by decide +kernel)⟩
theorem rep_intL {x : V} {z : Val} (h : RepV K FRl H m x z) : ∃ t, TyX K H x t ∧ PySem.W.kitOne K t (.type "int") = some (isNum z) := by
  cases h with
  | num i => exact ⟨_, .base (.int i), kit_ty (r := true) (by decide +kernel)⟩
  | blk h _ => exact ⟨_, tyT h, kit_ty (r := false) (by decide +kernel)⟩
  | fn h _ _ => exact ⟨_, tyL h, kit_ty (r := false) (by decide +kernel)⟩
def isFn : Val → Bool
  | .fn _ _ _ => true
  | _ => false
theorem rep_listL {x : V} {z : Val} (h : RepV K FRl H m x z) : ∃ t, TyX K H x t ∧ PySem.W.kitOne K t (.type "list") = some (isFn z) := by
  cases h with
  | num i => exact ⟨_, .base (.int i), kit_ty (r := false) (by decide +kernel)⟩
  | blk h _ => exact ⟨_, tyT h, kit_ty (r := false) (by decide +kernel)⟩
  | fn h _ _ => exact ⟨_, tyL h, kit_ty (r := true) (by decide +kernel)⟩
end

/-! ### _law_fault -/
abbrev s__law_fault : Stmt := top 25
def N__law_fault : List Str := ["_law_world_here", "_law_word"]
theorem sc__law_fault : FnScope N__law_fault ["_law_world_here", "_law_word"] (defScope s__law_fault) := ⟨rfl, rfl, rfl, by decide +kernel, rfl, by decide +kernel, by decide +kernel⟩
def spFault : Sp := fun vs H Q _ => ∃ (r : Addr) (g : Str) (sp : V) (wd : Str) (mo b un : Int), vs = [.ref r, .str g] ∧ H r = some (.dK (wF sp wd mo b un)) ∧
  (wd ≠ "" → Q .non H) ∧ (wd = "" → Q .non (upd H r (.dK (wF sp g mo b un))))
theorem ok__law_fault (F : Fun K "_law_fault" "_law_fault" s__law_fault f fd) : FnN P w K mg base CX0 1 f fd ["_law_world_here", "_law_word"] spFault := by
  refine okN0 F sc__law_fault (fun vs H Q E h => ?_) (fun cdv A' outer s H vs Q E hr h => ?_)
  · obtain ⟨_, _, _, _, _, _, _, rfl, _⟩ := h
    rfl
  obtain ⟨r, g, sp, wd, mo, b, un, rfl, h, q1, q2⟩ := h
  have hu := hr.hu
  refine ⟨_, (pss_one (ps_if (pt_cmpR op_eq (pe_dget hu (pv 0) pe_str (fun _ _ => rfl)) pe_str (nomark _))
    (pss_one (ps_dput hu (pv 0) pe_str (pv 1) rfl))
    pss_nil)), ?_⟩
  refine ⟨_, rfl, r, _, rfl, gWord h, rfl, _, rfl, ?_⟩
  by_cases e : wd = ""
  · subst e
    exact iteTr (by decide +kernel) ⟨_, rfl, _, rfl, r, _, rfl, pWord h g, q2 rfl⟩
  · exact iteFr (decide_eq_false (fun z => e (V.str.inj z))) (q1 e)
end
end FW

set_option Elab.async false
set_option linter.all false
set_option maxRecDepth 100000
set_option maxHeartbeats 8000000
/-! LB: the law's own walk: sums. -/
namespace FW
open PySem PySem.Spec PyProof.Rows L2

section
variable {P : Program} {w : World} {K : PySem.W.Frag} {mg : Str → Option Value} {base : Heap} {f : Addr} {fd : FuncData} {pool : List Str} {D : Nat} {most : Int}

/-! ### _law_reckoned -/
def rkv (i j : Int) : List (L2.Key × V) := [(Sum.inr "plus", .int (i + j)), (Sum.inr "minus", .int (i - j)), (Sum.inr "times", .int (i * j))]
abbrev s__law_reckoned : Stmt := top 27
def N__law_reckoned : List Str := ["_law_world_here", "_law_word", "_law_one", "_law_other", "_law_made"]
theorem sc__law_reckoned : FnScope N__law_reckoned ["_law_world_here", "_law_word", "_law_one", "_law_other"] (defScope s__law_reckoned) := ⟨rfl, rfl, rfl, by decide +kernel, rfl, by decide +kernel, by decide +kernel⟩
def spLReck (K : PySem.W.Frag) (most : Int) (u : Nat) : Sp := fun vs H Q _ => ∃ (r : Addr) (wd : Str) (a b : V), vs = [.ref r, .str wd, a, b] ∧
  ((∃ (x y : Val) (m : List Addr) (s : MS), LAt K most H r m u s ∧ OpW wd ∧ RepV K FRl H m a x ∧ RepV K FRl H m b y ∧ GNum x ∧ GNum y ∧ RetW K most H r m u (reck wd x y s) Q) ∨
   (∃ g, Dead H r g ∧ Q .non H))
theorem ok__law_reckoned {u : Nat} (F : Fun K "_law_reckoned" "_law_reckoned" s__law_reckoned f fd) (T : LT mg) (c__law_fault : CalN P w K mg base CX0 1 "_law_fault" ["_law_world_here", "_law_word"] spFault) :
    FnN P w K mg base CX0 2 f fd ["_law_world_here", "_law_word", "_law_one", "_law_other"] (spLReck K most u) := by
  refine okN0 F sc__law_reckoned (fun vs H Q E h => ?_) (fun cdv A' outer s H vs Q E hr h => ?_)
  · obtain ⟨_, _, _, _, rfl, _⟩ := h
    rfl
  obtain ⟨r, wd, a, b, rfl, h⟩ := h
  have hu := hr.hu
  refine ⟨_, (pss_cons (ps_if (PW.pt (pw_and (pt_cmpR op_eq (pe_dget hu (pv 0) pe_str (fun _ _ => rfl)) pe_str (nomark _)) (pw_and1 (pt_not (PW.pt (pw_and (pt_val (pe_callB call_isi (by rfl) T.z_isinstance (by decide +kernel) (pa_cons (pv 2) (pa_cons (pe_tyN (n := "int") (by rfl) T.z_int (by decide +kernel)) pa_nil)))) (pw_and1 (pt_val (pe_callB call_isi (by rfl) T.z_isinstance (by decide +kernel) (pa_cons (pv 3) (pa_cons (pe_tyN (n := "int") (by rfl) T.z_int (by decide +kernel)) pa_nil)))))))))))
    (pss_one (ps_expr (pe_cN c__law_fault hr (by rfl) pass0 (pa_cons (pv 0) (pa_cons pe_str pa_nil)))))
    pss_nil)
  (pss_cons (ps_if (pt_cmpR op_ne (pe_dget hu (pv 0) pe_str (fun _ _ => rfl)) pe_str (nomark _))
    (pss_one (ps_ret pe_non))
    pss_nil)
  (pss_cons (ps_if (pt_cmpR op_eq (pv 1) pe_str (nomark _))
    (pss_one (ps_ret (pe_callTy call_int1 (by rfl) T.z_int (by decide +kernel) (pa_cons (pe_cmpR op_lt (pv 2) (pv 3) (nomark _)) pa_nil))))
    pss_nil)
  (pss_cons (ps_set (i := 4) sc__law_reckoned.nd rfl (Or.inl rfl) (pe_dget hu (pe_disp (pps_cons pe_str (pe_op op_add (pv 2) (pv 3)) (pps_cons pe_str (pe_op op_sub (pv 2) (pv 3)) (pps_cons pe_str (pe_op op_mulW (pv 2) (pv 3)) pps_nil))) (by rfl) (by rfl) (fun z => by cases z) (by decide)) (pv 1) (fun _ _ => rfl)))
  (pss_cons (ps_if (pt_cmpR op_ge (pe_callB call_abs (by rfl) T.z_abs (by decide +kernel) (pa_cons (pv 4) pa_nil)) (pe_op op_pow pe_int pe_int) (nomark _))
    (pss_one (ps_expr (pe_cN c__law_fault hr (by rfl) pass0 (pa_cons (pv 0) (pa_cons pe_str pa_nil)))))
    pss_nil)
  (pss_one (ps_ret (pv 4)))))))), ?_⟩
  rcases h with ⟨x, y, m, st, run, hw, ra, rb, ga, gb, q⟩ | ⟨g, ⟨hg, sp, mo, bg, un, h0⟩, q⟩
  · obtain ⟨⟨sp, h0⟩, ev⟩ := id run
    obtain ⟨ta, tya, ka⟩ := rep_intL ra
    obtain ⟨tb, tyb, kb⟩ := rep_intL rb
    refine ⟨_, rfl, r, _, rfl, gWord h0, rfl, _, rfl, iteTr (by decide +kernel) ?_⟩
    have stuck : reck wd x y st = .bad .stuck st → Q .non (upd H r (.dK (wF sp "stuck" most st.begun (10 - (u : Int))))) := fun e => by
      rw [e] at q
      exact q _ _ Fwd.own ⟨fName_ne .stuck, _, _, _, _, upd_same⟩ .non
    have out : reck wd x y st = .bad .stuck st → (∃ (v : V), v = .ref r ∧ ∃ g, True) := fun _ => ⟨_, rfl, r, trivial⟩
    cases x with
    | num i =>
      have ea : a = .int i := by
        cases ra
        rfl
      subst ea
      refine ⟨_, rfl, _, _, _, _, _, rfl, .ty _, tya, ka, _, rfl, iteT ?_⟩
      cases y with
      | num j =>
        have eb : b = .int j := by
          cases rb
          rfl
        subst eb
        refine ⟨_, rfl, _, _, _, _, _, rfl, .ty _, tyb, kb, _, rfl, iteF ?_⟩
        refine ⟨_, rfl, r, _, rfl, gWord h0, rfl, _, rfl, iteFr (by decide +kernel) ?_⟩
        by_cases hl : wd = "less"
        · subst hl
          refine ⟨_, rfl, rfl, _, rfl, iteTr (by decide +kernel) ?_⟩
          refine ⟨_, rfl, _, rfl, _, _, rfl, rfl, .inr ⟨_, rfl, ?_⟩⟩
          have q' : RetW K most H r m u (.ok (.num (if i < j then 1 else 0)) st) Q := q
          refine q' _ m _ (Fwd.refl r H) run Ext.refl ?_
          by_cases h : i < j
          · rw [if_pos h, decide_eq_true h]
            exact .num 1
          · rw [if_neg h, decide_eq_false h]
            exact .num 0
        · refine ⟨_, rfl, rfl, _, rfl, iteFr (decide_eq_false (fun z => hl (V.str.inj z))) ?_⟩
          obtain ⟨n, e1, e2⟩ : ∃ n, reck wd (.num i) (.num j) st = bnd n st ∧ valV (rkv i j) (Sum.inr wd : L2.Key) = some (.int n) := by
            rcases hw with rfl | rfl | rfl | rfl
            · exact ⟨_, rfl, rfl⟩
            · exact ⟨_, rfl, rfl⟩
            · exact ⟨_, rfl, rfl⟩
            · exact absurd rfl hl
          rw [e1] at q
          intro p hp
          have nrp : r ≠ p := ne_of_none h0 hp
          refine ⟨_, rfl, _, rfl, _, _, rfl, rfl, _, rfl, _, rfl, _, _, rfl, rfl, _, rfl, _, rfl, _, _, rfl, rfl, wide_mul (ga i rfl) (gb j rfl) (by decide) (by decide) (by decide), ?_⟩
          refine ⟨upd_same, rkv i j, rfl, (by show 3 ≤ 15; decide), ?_⟩
          rw [upd_upd, show mergeK [] (rkv i j) = rkv i j from rfl]
          have f1 : Fwd r H (upd H p (.dK (rkv i j))) := Fwd.new hp
          have h1 : (upd H p (.dK (rkv i j))) r = some (.dK (wF sp "" most st.begun (10 - (u : Int)))) := (upd_ne nrp).trans h0
          refine ⟨_, rfl, p, _, rfl, .inl ⟨_, Sum.inr wd, .inl upd_same, rfl, e2.symm⟩, ?_⟩
          generalize (upd H p (.dK (rkv i j))) = H1 at f1 h1
          have run1 := run.fwd f1 (h1.trans h0.symm)
          refine ⟨_, rfl, n, rfl, _, _, rfl, rfl, ⟨by decide, by decide, by decide⟩, _, _, rfl, rfl, _, rfl, ?_⟩
          unfold bnd at q
          by_cases hg : greatest < (if n < 0 then -n else n)
          · rw [if_pos hg] at q
            refine iteTr (decide_eq_true (by unfold greatest at hg; show (10 : Int) ^ 60 ≤ _; omega)) ?_
            refine ⟨_, rfl, r, _, sp, "", _, _, _, rfl, h1, fun z => absurd rfl z, fun _ => ?_⟩
            exact ⟨_, rfl, q _ _ (f1.trans Fwd.own) ⟨fName_ne .great, _, _, _, _, upd_same⟩ (.int n)⟩
          · rw [if_neg hg] at q
            refine iteFr (decide_eq_false (by unfold greatest at hg; show ¬ (10 : Int) ^ 60 ≤ _; omega)) ?_
            exact ⟨_, rfl, q _ m _ f1 run1 Ext.refl (.num n)⟩
      | blk w' vs =>
        refine ⟨_, rfl, _, _, _, _, _, rfl, .ty _, tyb, kb, _, rfl, iteT ?_⟩
        refine ⟨_, rfl, r, _, sp, "", _, _, _, rfl, h0, fun z => absurd rfl z, fun _ => ?_⟩
        refine ⟨_, rfl, r, _, rfl, gWord upd_same, rfl, _, rfl, iteTr (by decide +kernel) ?_⟩
        exact stuck rfl
      | fn x' b' k' =>
        refine ⟨_, rfl, _, _, _, _, _, rfl, .ty _, tyb, kb, _, rfl, iteT ?_⟩
        refine ⟨_, rfl, r, _, sp, "", _, _, _, rfl, h0, fun z => absurd rfl z, fun _ => ?_⟩
        refine ⟨_, rfl, r, _, rfl, gWord upd_same, rfl, _, rfl, iteTr (by decide +kernel) ?_⟩
        exact stuck rfl
    | blk w' vs =>
      refine ⟨_, rfl, _, _, _, _, _, rfl, .ty _, tya, ka, _, rfl, iteF (iteT ?_)⟩
      refine ⟨_, rfl, r, _, sp, "", _, _, _, rfl, h0, fun z => absurd rfl z, fun _ => ?_⟩
      refine ⟨_, rfl, r, _, rfl, gWord upd_same, rfl, _, rfl, iteTr (by decide +kernel) ?_⟩
      exact stuck rfl
    | fn x' b' k' =>
      refine ⟨_, rfl, _, _, _, _, _, rfl, .ty _, tya, ka, _, rfl, iteF (iteT ?_)⟩
      refine ⟨_, rfl, r, _, sp, "", _, _, _, rfl, h0, fun z => absurd rfl z, fun _ => ?_⟩
      refine ⟨_, rfl, r, _, rfl, gWord upd_same, rfl, _, rfl, iteTr (by decide +kernel) ?_⟩
      exact stuck rfl
  · have n1 : decide (V.str g = V.str "") = false := decide_eq_false (fun z => hg (V.str.inj z))
    have n2 : (!decide (V.str g = V.str "")) = true := by rw [n1]; rfl
    refine ⟨_, rfl, r, _, rfl, gWord h0, rfl, _, rfl, iteFr n1 (iteF ?_)⟩
    refine ⟨_, rfl, r, _, rfl, gWord h0, rfl, _, rfl, iteTr n2 ?_⟩
    exact q
end
end FW

set_option Elab.async false
set_option linter.all false
set_option maxRecDepth 100000
set_option maxHeartbeats 8000000
/-! LC: the law's own walk: calls. -/
namespace FW
open PySem PySem.Spec PyProof.Rows L2

section
variable {P : Program} {w : World} {K : PySem.W.Frag} {mg : Str → Option Value} {base : Heap} {f : Addr} {fd : FuncData} {pool : List Str} {D : Nat} {most : Int}

def spLForm (K : PySem.W.Frag) (pool : List Str) (D : Nat) (most : Int) (form : PyData → Prop) (u n : Nat) : Sp := fun vs H Q _ =>
  ∃ (r d : Addr) (pv : V), vs = [.ref r, pv, .ref d] ∧
  ((∃ (p : PyData) (m : List Addr) (k : Nat) (s : MS), LPre K pool D most H r m u s d k ∧ Dq K H pv p ∧ Wf pool n p ∧ form p ∧ RetW K most H r m u (EV D most u n p k s) Q) ∨
   (∃ g, Dead H r g ∧ Q .non H))
abbrev spLVal (K : PySem.W.Frag) (pool : List Str) (D : Nat) (most : Int) (u n : Nat) : Sp := spLForm K pool D most (fun _ => True) u n
def spLCalled (K : PySem.W.Frag) (pool : List Str) (D : Nat) (most : Int) (u : Nat) : Sp := fun vs H Q _ =>
  ∃ (r : Addr) (fv av : V), vs = [.ref r, fv, av] ∧
  ((∃ (f a : Val) (m : List Addr) (s : MS), LAt K most H r m u s ∧ GoodS pool D s ∧ RepV K FRl H m fv f ∧ RepV K FRl H m av a ∧ GoodV pool D s.envs.length f ∧ GoodV pool D s.envs.length a ∧ RetW K most H r m u (EC D most u f a s) Q) ∨
   (∃ g, Dead H r g ∧ Okv K H fv ∧ Q .non H))

/-! ### _law_called -/
abbrev s__law_called : Stmt := top 26
def N__law_called : List Str := ["_law_world_here", "_law_function", "_law_thing", "_law_inner", "_law_made"]
theorem sc__law_called : FnScope N__law_called ["_law_world_here", "_law_function", "_law_thing"] (defScope s__law_called) := ⟨rfl, rfl, rfl, by decide +kernel, rfl, by decide +kernel, by decide +kernel⟩
theorem ok__law_called {u lv : Nat} {spV : Sp} (F : Fun K "_law_called" "_law_called" s__law_called f fd) (T : LT mg) (hp : pool.length ≤ 1000) (hu10 : u ≤ 10) (hlv : 1 ≤ lv)
    (c__law_fault : CalN P w K mg base CX0 1 "_law_fault" ["_law_world_here", "_law_word"] spFault)
    (c__law_value : CalN P w K mg base CX0 lv "_law_value" ["_law_world_here", "_law_phrase", "_law_names_here"] spV) (hv : ∀ u', u = u' + 1 → spV = spLVal K pool D most u' D) :
    FnN P w K mg base CX0 (lv + 1) f fd ["_law_world_here", "_law_function", "_law_thing"] (spLCalled K pool D most u) := by
  refine okN0 F sc__law_called (fun vs H Q E h => ?_) (fun cdv A' outer s H vs Q E hr h => ?_)
  · obtain ⟨_, _, _, rfl, _⟩ := h
    rfl
  obtain ⟨r, fv, av, rfl, h⟩ := h
  have hu := hr.hu
  refine ⟨_, (pss_cons (ps_if (pt_not (pt_val (pe_callB call_isi (by rfl) T.z_isinstance (by decide +kernel) (pa_cons (pv 1) (pa_cons (pe_tyN (n := "list") (by rfl) T.z_list (by decide +kernel)) pa_nil)))))
    (pss_one (ps_expr (pe_cN c__law_fault hr (by rfl) pass0 (pa_cons (pv 0) (pa_cons pe_str pa_nil)))))
    (pss_one (ps_if (pt_cmpR op_ge (pe_dget hu (pv 0) pe_str (fun _ _ => rfl)) (pe_dget hu (pv 0) pe_str (fun _ _ => rfl)) (nomark _))
      (pss_one (ps_expr (pe_cN c__law_fault hr (by rfl) pass0 (pa_cons (pv 0) (pa_cons pe_str pa_nil)))))
      (pss_one (ps_if (pt_cmpR op_ge (pe_dget hu (pv 0) pe_str (fun _ _ => rfl)) pe_int (nomark _))
        (pss_one (ps_expr (pe_cN c__law_fault hr (by rfl) pass0 (pa_cons (pv 0) (pa_cons pe_str pa_nil)))))
        pss_nil)))))
  (pss_cons (ps_if (pt_cmpR op_ne (pe_dget hu (pv 0) pe_str (fun _ _ => rfl)) pe_str (nomark _))
    (pss_one (ps_ret pe_non))
    pss_nil)
  (pss_cons (ps_daug hu (pv 0) pe_str pe_int in_add (fun _ _ _ => rfl))
  (pss_cons (ps_daug hu (pv 0) pe_str pe_int in_add (fun _ _ _ => rfl))
  (pss_cons (ps_set (i := 3) sc__law_called.nd rfl (Or.inl rfl) (pe_callTy call_dictD (by rfl) T.z_dict (by decide +kernel) (pa_cons (pe_ix ix_list (pv 1) pe_int (fun _ _ => rfl)) pa_nil)))
  (pss_cons (ps_dput hu (pv 3) (pe_ix ix_list (pv 1) pe_int (fun _ _ => rfl)) (pv 2) rfl)
  (pss_cons (ps_set (i := 4) sc__law_called.nd rfl (Or.inl rfl) (pe_cN c__law_value hr (by rfl) pass0 (pa_cons (pv 0) (pa_cons (pe_ix ix_list (pv 1) pe_int (fun _ _ => rfl)) (pa_cons (pv 3) pa_nil)))))
  (pss_cons (ps_daug hu (pv 0) pe_str pe_int in_sub (fun _ _ _ => rfl))
  (pss_one (ps_ret (pv 4))))))))))), ?_⟩
  rcases h with ⟨fz, az, m, st, run, good, rf, ra, gf, ga, q⟩ | ⟨g, ⟨hg, sp, mo, bg, un, h0⟩, ok, q⟩
  · obtain ⟨⟨sp, h0⟩, ev⟩ := id run
    obtain ⟨ty, tyy, ky⟩ := rep_listL rf
    have stuck : (∀ x b k, fz ≠ .fn x b k) → Q .non (upd H r (.dK (wF sp "stuck" most st.begun (10 - (u : Int))))) := fun hn => by
      have e : EC D most u fz az st = .bad .stuck st := by
        cases u <;> (cases fz <;> first | rfl | exact absurd rfl (hn _ _ _))
      rw [e] at q
      exact q _ _ Fwd.own ⟨fName_ne .stuck, _, _, _, _, upd_same⟩ .non
    refine ⟨_, rfl, _, _, _, _, _, rfl, .ty _, tyy, ky, _, rfl, ?_⟩
    cases rf with
    | num i =>
      refine iteTr rfl ⟨_, rfl, r, _, sp, "", _, _, _, rfl, h0, fun z => absurd rfl z, fun _ => ?_⟩
      exact ⟨_, rfl, r, _, rfl, gWord upd_same, rfl, _, rfl, iteTr (by decide +kernel) (stuck (fun _ _ _ z => by cases z))⟩
    | blk h _ =>
      refine iteTr rfl ⟨_, rfl, r, _, sp, "", _, _, _, rfl, h0, fun z => absurd rfl z, fun _ => ?_⟩
      exact ⟨_, rfl, r, _, rfl, gWord upd_same, rfl, _, rfl, iteTr (by decide +kernel) (stuck (fun _ _ _ z => by cases z))⟩
    | @fn a d x pb b k hf hpb hmk =>
      have hf : H a = some (.lst [.str x, pb, .ref d]) := hf
      have nar : a ≠ r := ne_of hf h0 (by intro z; cases z)
      have ndr : d ≠ r := (ev.at_ k d hmk).1
      refine iteFr rfl ?_
      have eC : EC D most u (.fn x b k) az st = if most ≤ (st.begun : Int) then .bad .long st else
          match (match u with | 0 => none | u' + 1 => some (EV D most u' D) : Option Go) with
          | none => .bad .deep st
          | some g => g b st.envs.length { envs := st.envs ++ [envPut (st.env k) x az], begun := st.begun + 1 } := by cases u <;> rfl
      rw [eC] at q
      refine ⟨_, rfl, r, _, rfl, gBegun h0, _, rfl, r, _, rfl, gMost h0, _, _, rfl, rfl, _, rfl, ?_⟩
      by_cases hlong : most ≤ (st.begun : Int)
      · rw [if_pos hlong] at q
        refine iteTr (decide_eq_true hlong) ⟨_, rfl, r, _, sp, "", _, _, _, rfl, h0, fun z => absurd rfl z, fun _ => ?_⟩
        exact ⟨_, rfl, r, _, rfl, gWord upd_same, rfl, _, rfl, iteTr (by decide +kernel) (q _ _ Fwd.own ⟨fName_ne .long, _, _, _, _, upd_same⟩ .non)⟩
      · rw [if_neg hlong] at q
        refine iteFr (decide_eq_false hlong) ⟨_, rfl, r, _, rfl, gUnder h0, _, _, rfl, rfl, _, rfl, ?_⟩
        cases u with
        | zero =>
          refine iteTr (decide_eq_true (show (10 : Int) ≤ 10 - ((0 : Nat) : Int) by decide)) ⟨_, rfl, r, _, sp, "", _, _, _, rfl, h0, fun z => absurd rfl z, fun _ => ?_⟩
          exact ⟨_, rfl, r, _, rfl, gWord upd_same, rfl, _, rfl, iteTr (by decide +kernel) (q _ _ Fwd.own ⟨fName_ne .deep, _, _, _, _, upd_same⟩ .non)⟩
        | succ u' =>
          have hvv := hv u' rfl
          subst hvv
          refine iteFr (decide_eq_false (show ¬ (10 : Int) ≤ 10 - ((u' + 1 : Nat) : Int) by omega)) ?_
          refine ⟨_, rfl, r, _, rfl, gWord h0, rfl, _, rfl, iteFr (by decide +kernel) ?_⟩
          -- begun += 1; under += 1
          refine ⟨_, rfl, r, _, rfl, gBegun h0, _, _, rfl, rfl, _, pBegun h0 _, ?_⟩
          refine ⟨_, rfl, r, _, rfl, gUnder upd_same, _, _, rfl, rfl, _, pUnder upd_same _, ?_⟩
          rw [upd_upd]
          obtain ⟨_, kvs, hd, rel⟩ := ev.at_ k d hmk
          have hlen : kvs.length < sizeLine := by
            rw [kvr_len rel]
            exact small1000 (Nat.le_trans (good.env k).len hp)
          generalize hH1 : upd H r (.dK (wF sp "" most ((st.begun : Int) + 1) (10 - ((u' + 1 : Nat) : Int) + 1))) = H1
          have f1 : Fwd r H H1 := by
            rw [← hH1]
            exact Fwd.own
          have hr1 : H1 r = some (.dK (wF sp "" most ((st.begun + 1 : Nat) : Int) (10 - (u' : Int)))) := by
            rw [← hH1, upd_same]
            have e1 : (10 - ((u' + 1 : Nat) : Int) + 1) = 10 - (u' : Int) := by omega
            have e2 : ((st.begun : Int) + 1) = ((st.begun + 1 : Nat) : Int) := by omega
            rw [e1, e2]
          -- inner = dict(function[2])
          refine ⟨_, rfl, a, _, _, _, rfl, rfl, .inl (.inl (f1 _ _ hf nar)), at_of (j := 2) rfl rfl, d, kvs, rfl, .inl (f1 _ _ hd ndr), fun p hpn => ?_⟩
          have nrp : r ≠ p := ne_of_none hr1 hpn
          have nap : a ≠ p := ne_of_none (f1 _ _ hf nar) hpn
          -- inner[function[0]] = thing
          refine ⟨_, rfl, _, rfl, _, rfl, a, _, _, _, rfl, rfl, .inl (.inl (by rw [upd_ne nap]; exact f1 _ _ hf nar)), at_of (j := 0) rfl rfl, p, _, rfl, DPut.k (k := Sum.inr x) upd_same hlen, ?_⟩
          rw [upd_upd]
          have f2 : Fwd r H (upd H1 p (.dK (putK kvs (Sum.inr x) av))) := f1.trans (Fwd.new hpn)
          have cr : Carry K FRl r H (upd H1 p (.dK (putK kvs (Sum.inr x) av))) := run.carry f2
          have hr2 : upd H1 p (.dK (putK kvs (Sum.inr x) av)) r = some (.dK (wF sp "" most ((st.begun + 1 : Nat) : Int) (10 - (u' : Int)))) := by
            rw [upd_ne nrp]
            exact hr1
          have cr2 : Carry K FRl r (upd H1 p (.dK (putK kvs (Sum.inr x) av))) (upd H1 p (.dK (putK kvs (Sum.inr x) av))) := carryD hr2 (Fwd.refl _ _)
          have env2 : EnvsAt K FRl r (upd H1 p (.dK (putK kvs (Sum.inr x) av))) (m ++ [p]) (st.envs ++ [envPut (st.env k) x az]) := by
            refine (envsAt_carry cr ev).snoc nrp.symm ⟨_, upd_same, ?_⟩ cr2
            exact kvr_put (kvr_carry cr ⟨[p], rfl⟩ rel) (repV_carry cr ⟨[p], rfl⟩ ra)
          have run2 : LAt K most (upd H1 p (.dK (putK kvs (Sum.inr x) av))) r (m ++ [p]) u' ⟨st.envs ++ [envPut (st.env k) x az], st.begun + 1⟩ := ⟨⟨sp, hr2⟩, env2⟩
          generalize upd H1 p (.dK (putK kvs (Sum.inr x) av)) = H2 at f2 cr env2 run2
          obtain ⟨gx, gb, gk⟩ : x ∈ pool ∧ Wf pool D b ∧ k < st.envs.length := by
            cases gf with
            | fn h1 h2 h3 => exact ⟨h1, h2, h3⟩
          have good2 : GoodS pool D ⟨st.envs ++ [envPut (st.env k) x az], st.begun + 1⟩ :=
            GoodS.new' (n := 0) good (((good.env k).put gx ga).mono (Nat.le_add_right _ 1))
          have q' : RetW K most H r m (u' + 1) (EV D most u' D b st.envs.length ⟨st.envs ++ [envPut (st.env k) x az], st.begun + 1⟩) Q := q
          have pre2 : LPre K pool D most H2 r (m ++ [p]) u' ⟨st.envs ++ [envPut (st.env k) x az], st.begun + 1⟩ p st.envs.length := by
            refine ⟨run2, good2, ?_⟩
            rw [← ev.len, List.getElem?_append_right (Nat.le_refl _), Nat.sub_self]
            rfl
          -- made = value(..)
          refine ⟨_, rfl, _, rfl, a, _, _, _, rfl, rfl, .inl (.inl (f2 _ _ hf nar)), at_of (j := 1) rfl rfl, _, rfl, ?_⟩
          refine ⟨r, p, pb, rfl, .inl ⟨b, m ++ [p], st.envs.length, _, pre2, dp_fwd cr.ns f2 hpb, gb, trivial, ?_⟩⟩
          have hpH : H p = Option.none := f1.non ⟨_, hr1⟩ hpn
          obtain ⟨⟨sz, hz⟩, _⟩ := id run2
          cases e : EV D most u' D b st.envs.length ⟨st.envs ++ [envPut (st.env k) x az], st.begun + 1⟩ with
          | bad g s' =>
            rw [e] at q'
            intro H3 y f3 dead3 by3
            obtain ⟨hg, sp3, mo3, bg3, un3, h3⟩ := dead3
            refine ⟨_, rfl, r, _, rfl, gUnder h3, _, _, rfl, rfl, _, pUnder h3 _, ?_⟩
            exact ⟨_, rfl, q' _ y (f2.trans (f3.trans Fwd.own)) ⟨hg, _, _, _, _, upd_same⟩ by3⟩
          | ok v s' =>
            rw [e] at q'
            intro H3 m3 z f3 run3 hm3 rep3
            obtain ⟨⟨s3, h3⟩, ev3⟩ := id run3
            refine ⟨_, rfl, r, _, rfl, gUnder h3, _, _, rfl, rfl, _, pUnder h3 _, ?_⟩
            refine ⟨_, rfl, ?_⟩
            have f4 : Fwd r H3 (upd H3 r (.dK (wF s3 "" most s'.begun (10 - (u' : Int) - 1)))) := Fwd.own
            have c4 := run3.carry f4
            refine q' _ m3 z (f2.trans (f3.trans f4)) ⟨⟨s3, ?_⟩, envsAt_carry c4 ev3⟩ ((Ext.one hpH).trans hm3 fun y hy => f2.non ⟨_, hz⟩ hy) (repV_carry c4 ⟨[], (List.append_nil _).symm⟩ rep3)
            rw [upd_same]
            have e1 : (10 - (u' : Int) - 1) = 10 - ((u' + 1 : Nat) : Int) := by omega
            rw [e1]
  · have n1 : decide (V.str g = V.str "") = false := decide_eq_false (fun z => hg (V.str.inj z))
    have n2 : (!decide (V.str g = V.str "")) = true := by rw [n1]; rfl
    obtain ⟨ty, bl, tyy, ky⟩ := ok.isList
    refine ⟨_, rfl, _, _, _, _, _, rfl, .ty _, tyy, ky, _, rfl, ?_⟩
    cases bl with
    | false =>
      refine iteTr rfl ⟨_, rfl, r, _, sp, g, mo, bg, un, rfl, h0, fun _ => ?_, fun e => absurd e hg⟩
      exact ⟨_, rfl, r, _, rfl, gWord h0, rfl, _, rfl, iteTr n2 q⟩
    | true =>
      refine iteFr rfl ⟨_, rfl, r, _, rfl, gBegun h0, _, rfl, r, _, rfl, gMost h0, _, _, rfl, rfl, _, rfl, ?_⟩
      by_cases h1 : mo ≤ bg
      · refine iteTr (decide_eq_true h1) ⟨_, rfl, r, _, sp, g, mo, bg, un, rfl, h0, fun _ => ?_, fun e => absurd e hg⟩
        exact ⟨_, rfl, r, _, rfl, gWord h0, rfl, _, rfl, iteTr n2 q⟩
      · refine iteFr (decide_eq_false h1) ⟨_, rfl, r, _, rfl, gUnder h0, _, _, rfl, rfl, _, rfl, ?_⟩
        by_cases h2 : (10 : Int) ≤ un
        · refine iteTr (decide_eq_true h2) ⟨_, rfl, r, _, sp, g, mo, bg, un, rfl, h0, fun _ => ?_, fun e => absurd e hg⟩
          exact ⟨_, rfl, r, _, rfl, gWord h0, rfl, _, rfl, iteTr n2 q⟩
        · refine iteFr (decide_eq_false h2) ?_
          exact ⟨_, rfl, r, _, rfl, gWord h0, rfl, _, rfl, iteTr n2 q⟩
end
end FW

set_option Elab.async false
set_option linter.all false
set_option maxRecDepth 100000
set_option maxHeartbeats 8000000
/-! LD: the law's own walk: let, ring, if. -/
namespace FW
open PySem PySem.Spec PyProof.Rows L2

section
variable {P : Program} {w : World} {K : PySem.W.Frag} {mg : Str → Option Value} {base : Heap} {f : Addr} {fd : FuncData} {pool : List Str} {D : Nat} {most : Int}
section
variable {H H' : Hp} {r d : Addr} {m : List Addr} {u k n : Nat} {s s' : MS}
theorem LPre.fwd (h : LPre K pool D most H r m u s d k) (f : Fwd r H H') (e : H' r = H r) : LPre K pool D most H' r m u s d k := ⟨h.run.fwd f e, h.good, h.ix⟩
theorem LPre.then (h : LPre K pool D most H r m u s d k) (hn : n ≤ D) {p : PyData} (hw : Wf pool n p) {v : Val} (e : EV D most u n p k s = .ok v s') {m' : List Addr} (hm : Ext H m m') (R : LAt K most H' r m' u s') :
    LPre K pool D most H' r m' u s' d k ∧ GoodV pool D s'.envs.length v ∧ s'.env k = s.env k := by
  have g := (EV_good pool D most u).1 n hn p k s hw h.lt h.good
  rw [e] at g
  obtain ⟨g1, g2, g3⟩ := g
  refine ⟨⟨R, g1, ?_⟩, g2, g3.env h.lt⟩
  obtain ⟨t, rfl, _⟩ := hm
  rw [List.getElem?_append_left (List.getElem?_eq_some_iff.mp h.ix).1]
  exact h.ix
theorem LPre.snoc (h : LPre K pool D most H r m u s d k) {e : Env} {p : Addr} (hp : p ≠ r) (he : EnvAt K FRl H (m ++ [p]) p e) (g : GoodE pool D (s.envs.length + 1) e) :
    LPre K pool D most H r (m ++ [p]) u (s.new e) p s.envs.length := by
  have c : Carry K FRl r H H := h.run.carry (Fwd.refl r H)
  refine ⟨⟨h.run.ob, h.run.ev.snoc hp he c⟩, GoodS.new' (n := 0) h.good g, ?_⟩
  rw [← h.run.ev.len, List.getElem?_append_right (Nat.le_refl _), Nat.sub_self]
  rfl
theorem RetW.imp {m1 : List Addr} {o : Out Val} {Q : VK} {H1 : Hp} (q : RetW K most H r m u o Q) (f : Fwd r H H1) (hm : Ext H m m1) (ho : ∃ o, H1 r = some o) : RetW K most H1 r m1 u o Q := by
  cases o with
  | ok v s' =>
    intro H' m' x f' R hm' rep
    exact q H' _ x (f.trans f') R (hm.trans hm' fun y hy => f.non ho hy) rep
  | bad g s' => exact fun H' x f' d b => q H' x (f.trans f') d b
theorem LAt.mem (R : LAt K most H r m u s) {d : Addr} (h : d ∈ m) : d ≠ r ∧ ∃ kvs, H d = some (.dK kvs) := by
  obtain ⟨k, hk⟩ := List.getElem?_of_mem h
  obtain ⟨n, kvs, hd, _⟩ := R.ev.at_ k d hk
  exact ⟨n, kvs, hd⟩
theorem LAt.dict {p : Addr} {kvs kvs' : List (L2.Key × V)} (R : LAt K most H r m u s) (h : H p = some (.dK kvs)) (n : r ≠ p) (hm : p ∉ m) : LAt K most (upd H p (.dK kvs')) r m u s := by
  refine ⟨by rw [upd_ne n]; exact R.ob, envsAt_carryP (carryD h Fwd.own) (fun d hd z => hm (z ▸ hd)) R.ev⟩
theorem LPre.list {L : Addr} {us us' : List V} (h : LPre K pool D most H r m u s d k) (hL : H L = some (.lst us)) (hn : ∀ (a : Addr) (x : Str) (pb : V) (d : Addr), FRl H a x pb d → a ≠ L) : LPre K pool D most (upd H L (.lst us')) r m u s d k := by
  obtain ⟨R, g, i⟩ := h
  obtain ⟨⟨sp, hr⟩, ev⟩ := id R
  have c : Carry K FRl L H (upd H L (.lst us')) := ⟨noSeqL hL, Fwd.own, fun a x pb d q => by
    have q' : H a = some (.lst [.str x, pb, .ref d]) := q
    show upd H L (.lst us') a = _
    rw [upd_ne (hn a x pb d q)]
    exact q'⟩
  refine ⟨⟨⟨sp, ?_⟩, envsAt_carryP c (fun e he z => ?_) ev⟩, g, i⟩
  · rw [upd_ne (ne_of hr hL (by intro z; cases z))]
    exact hr
  · obtain ⟨_, kv, hk⟩ := R.mem he
    rw [z, hL] at hk
    cases hk
end

/-! ### _law_bound -/
def spLBound (K : PySem.W.Frag) (pool : List Str) (D : Nat) (most : Int) (u n : Nat) : Sp := fun vs H Q _ =>
  ∃ (r d : Addr) (pv : V), vs = [.ref r, pv, .ref d] ∧
  (∃ (p : PyData) (m : List Addr) (k : Nat) (s : MS), LPre K pool D most H r m u s d k ∧ Dq K H pv p ∧ Wf pool n p ∧ Bound p ∧ RetW K most H r m u (EV D most u n p k s) Q)
abbrev s__law_bound : Stmt := top 29
def N__law_bound : List Str := ["_law_world_here", "_law_phrase", "_law_names_here", "_law_inner", "_law_name", "_law_thing", "_law_body", "_law_made", "_law_record", "_law_place"]
theorem sc__law_bound : FnScope N__law_bound ["_law_world_here", "_law_phrase", "_law_names_here"] (defScope s__law_bound) := ⟨rfl, rfl, rfl, by decide +kernel, rfl, by decide +kernel, by decide +kernel⟩
theorem ok__law_bound {u n lv : Nat} (F : Fun K "_law_bound" "_law_bound" s__law_bound f fd) (T : LT mg) (hp : pool.length ≤ 1000) (hn : n + 1 ≤ D) (hlv : 1 ≤ lv)
    (c__law_fault : CalN P w K mg base CX0 1 "_law_fault" ["_law_world_here", "_law_word"] spFault)
    (c__law_chosen : CalN P w K mg base CX0 1 "_law_chosen" ["_law_world_here", "_law_phrase", "_law_names_here"] (fun _ _ _ _ => False))
    (c__law_value : CalN P w K mg base CX0 lv "_law_value" ["_law_world_here", "_law_phrase", "_law_names_here"] (spLVal K pool D most u n)) :
    FnN P w K mg base CX0 (lv + 1) f fd ["_law_world_here", "_law_phrase", "_law_names_here"] (spLBound K pool D most u (n + 1)) := by
  refine okN0 F sc__law_bound (fun vs H Q E h => ?_) (fun cdv A' outer s H vs Q E hr h => ?_)
  · obtain ⟨_, _, _, rfl, _⟩ := h
    rfl
  obtain ⟨r, d, phv, rfl, ph, m, k, st, pre, hdp, hwf, hform, q⟩ := h
  have hu := hr.hu
  refine ⟨_, (pss_cons (ps_set (i := 3) sc__law_bound.nd rfl (Or.inl rfl) (pe_callTy call_dictD (by rfl) T.z_dict (by decide +kernel) (pa_cons (pv 2) pa_nil)))
  (pss_cons (ps_if (pt_cmpR op_eq (pe_ix ix_tup (pv 1) pe_int (fun _ _ => rfl)) pe_str (nomark _))
    (pss_cons (ps_dput hu (pv 3) (pe_ix ix_tup (pv 1) pe_int (fun _ _ => rfl)) (pe_cN c__law_value hr (by rfl) pass0 (pa_cons (pv 0) (pa_cons (pe_ix ix_tup (pv 1) pe_int (fun _ _ => rfl)) (pa_cons (pv 2) pa_nil)))) rfl)
    (pss_one (ps_ret (pe_cN c__law_value hr (by rfl) pass0 (pa_cons (pv 0) (pa_cons (pe_ix ix_tup (pv 1) pe_int (fun _ _ => rfl)) (pa_cons (pv 3) pa_nil)))))))
    pss_nil)
  (pss_cons (ps_if (pt_cmpR op_eq (pe_ix ix_tup (pv 1) pe_int (fun _ _ => rfl)) pe_str (nomark _))
    (pss_cons (ps_for PassesOwn.never rfl (pi_tup (pe_ix ix_tup (pv 1) pe_int (fun _ _ => rfl))) (pg_tup rfl (pgs_cons (pg_name (i := 4) sc__law_bound.nd rfl (.inl rfl)) (pgs_cons (pg_name (i := 5) sc__law_bound.nd rfl (.inl rfl)) (pgs_cons (pg_name (i := 6) sc__law_bound.nd rfl (.inl rfl)) pgs_nil))))
      (pss_one (ps_dput hu (pv 3) (pv 4) (pe_lst (pa_cons (pv 5) (pa_cons (pv 6) (pa_cons (pv 3) pa_nil)))) rfl)))
    (pss_one (ps_ret (pe_cN c__law_value hr (by rfl) pass0 (pa_cons (pv 0) (pa_cons (pe_ix ix_tup (pv 1) pe_int (fun _ _ => rfl)) (pa_cons (pv 3) pa_nil)))))))
    pss_nil)
  (pss_cons (ps_if (pt_cmpR op_eq (pe_ix ix_tup (pv 1) pe_int (fun _ _ => rfl)) pe_str (nomark _))
    (pss_one (ps_ret (pe_cN c__law_chosen hr (by rfl) pass0 (pa_cons (pv 0) (pa_cons (pv 1) (pa_cons (pv 2) pa_nil))))))
    pss_nil)
  (pss_cons (ps_set (i := 7) sc__law_bound.nd rfl (Or.inl rfl) (pe_cN c__law_value hr (by rfl) pass0 (pa_cons (pv 0) (pa_cons (pe_ix ix_tup (pv 1) (pe_op op_add pe_int (pe_callTy call_int1 (by rfl) T.z_int (by decide +kernel) (pa_cons (pe_cmpR op_eq (pe_ix ix_tup (pv 1) pe_int (fun _ _ => rfl)) pe_str (nomark _)) pa_nil))) (fun _ _ => rfl)) (pa_cons (pv 2) pa_nil)))))
  (pss_cons (ps_if (pt_cmpR op_eq (pe_ix ix_tup (pv 1) pe_int (fun _ _ => rfl)) pe_str (nomark _))
    (pss_cons (ps_asg (pe_dget hu (pe_dget hu (pv 0) pe_str (fun _ _ => rfl)) (pe_ix ix_tup (pv 1) pe_int (fun _ _ => rfl)) (fun _ _ => rfl)) (pg_tup rfl (pgs_cons (pg_name (i := 8) sc__law_bound.nd rfl (.inl rfl)) (pgs_cons (pg_name (i := 9) sc__law_bound.nd rfl (.inl rfl)) pgs_nil))))
    (pss_cons (ps_if (PW.pt (pw_and (pt_val (pe_callB call_isi (by rfl) T.z_isinstance (by decide +kernel) (pa_cons (pv 7) (pa_cons (pe_tyN (n := "tuple") (by rfl) T.z_tuple (by decide +kernel)) pa_nil)))) (pw_and1 (pt_cmpR op_eq (pe_ix ix_tup (pv 7) pe_int (fun _ _ => rfl)) (pv 8) (nomark _)))))
      (pss_one (ps_ret (pe_ix ix_tup (pv 7) (pv 9) (fun _ _ => rfl))))
      pss_nil)
    (pss_cons (ps_expr (pe_cN c__law_fault hr (by rfl) pass0 (pa_cons (pv 0) (pa_cons pe_str pa_nil))))
    (pss_one (ps_ret pe_non)))))
    pss_nil)
  (pss_cons (ps_if (pt_not (pt_val (pe_callB call_isi (by rfl) T.z_isinstance (by decide +kernel) (pa_cons (pv 7) (pa_cons (pe_tyN (n := "int") (by rfl) T.z_int (by decide +kernel)) pa_nil)))))
    (pss_cons (ps_expr (pe_cN c__law_fault hr (by rfl) pass0 (pa_cons (pv 0) (pa_cons pe_str pa_nil))))
    (pss_one (ps_ret pe_non)))
    pss_nil)
  (pss_one (ps_ret (pe_cN c__law_value hr (by rfl) pass0 (pa_cons (pv 0) (pa_cons (pe_ix ix_tup (pv 1) (pe_op op_add pe_int (pe_callTy call_int1 (by rfl) T.z_int (by decide +kernel) (pa_cons (pe_cmpR op_eq (pv 7) pe_int (nomark _)) pa_nil))) (fun _ _ => rfl)) (pa_cons (pv 2) pa_nil))))))))))))), ?_⟩
  obtain ⟨ndr, kvs, hd, rel⟩ := pre.env
  have hlen := pre.size hp rel
  obtain ⟨⟨sp, h0⟩, ev⟩ := id pre.run
  have ns := pre.run.ns
  -- inner = dict(names)
  refine ⟨_, rfl, d, kvs, rfl, .inl hd, fun p hpn => ?_⟩
  have nrp : r ≠ p := ne_of_none h0 hpn
  have pm : p ∉ m := fun z => by
    obtain ⟨_, kv, hk⟩ := pre.run.mem z
    rw [hpn] at hk
    cases hk
  have f1 : Fwd r H (upd H p (.dK kvs)) := Fwd.new hpn
  have pre1 := pre.fwd f1 (upd_ne nrp)
  have hp1 : (upd H p (.dK kvs)) p = some (.dK kvs) := upd_same
  have e1r : (upd H p (.dK kvs)) r = H r := upd_ne nrp
  generalize upd H p (.dK kvs) = H1 at f1 pre1 hp1 e1r
  obtain ⟨⟨sp1, hr1⟩, _⟩ := id pre1.run
  have em1 : Ext H m m := Ext.refl
  rcases hform with hf | hf | hf
  · obtain ⟨x, a, b, rfl, hx, ha, hb⟩ := wf_let hwf hf
    obtain ⟨t, x0, x1, x2, x3, rfl, ht, h0', h1, h2, h3⟩ := dp_tup4 hdp
    have e0 := dp_str h0'
    have e1 := dp_str h1
    subst e0 e1
    refine ⟨_, rfl, t, _, _, _, rfl, rfl, sqT_fwd ns f1 ht, at_of (j := 0) rfl rfl, rfl, _, rfl, iteTr (by decide +kernel) ?_⟩
    -- value(phrase[2], names)
    refine ⟨_, rfl, _, rfl, t, _, _, _, rfl, rfl, sqT_fwd ns f1 ht, at_of (j := 2) rfl rfl, _, rfl, ?_⟩
    refine ⟨r, d, x2, rfl, .inl ⟨a, m, k, st, pre1, dp_fwd ns f1 h2, ha, trivial, ?_⟩⟩
    rw [EV_eq, ev_let, ← EV_eq] at q
    cases e : EV D most u n a k st with
    | bad g s1 =>
      rw [e] at q
      intro H2 y f2 dead2 by2
      have f12 := f1.trans f2
      have hp2 := f2 _ _ hp1 nrp.symm
      refine ⟨_, rfl, _, rfl, t, _, _, _, rfl, rfl, sqT_fwd ns f12 ht, at_of (j := 1) rfl rfl, p, _, rfl, DPut.k (k := Sum.inr x) hp2 hlen, ?_⟩
      have f3 : Fwd r H (upd H2 p (.dK (putK kvs (Sum.inr x) y))) := f12.late hpn
      have dead3 : Dead (upd H2 p (.dK (putK kvs (Sum.inr x) y))) r (fName g) := by
        obtain ⟨z1, a1, a2, a3, a4, a5⟩ := dead2
        exact ⟨z1, a1, a2, a3, a4, by rw [upd_ne nrp]; exact a5⟩
      refine ⟨_, rfl, _, rfl, t, _, _, _, rfl, rfl, sqT_fwd ns f3 ht, at_of (j := 3) rfl rfl, _, rfl, ?_⟩
      exact ⟨r, p, x3, rfl, .inr ⟨_, dead3, q _ _ f3 dead3 .non⟩⟩
    | ok v s1 =>
      rw [e] at q
      intro H2 m2 z f2 run2 hm2 rep2
      have q : RetW K most H r m u (EV D most u n b s1.envs.length (s1.new (envPut (s1.env k) x v))) Q := q
      obtain ⟨pre2, gv, ek⟩ := pre1.then (by omega) ha e hm2 run2
      have f12 := f1.trans f2
      have hp2 := f2 _ _ hp1 nrp.symm
      have pm2 : p ∉ m2 := fun z => by
        obtain ⟨t2, rfl, ht2⟩ := hm2
        rcases List.mem_append.mp z with z | z
        · exact pm z
        · have := ht2 p z
          rw [hp1] at this
          cases this
      refine ⟨_, rfl, _, rfl, t, _, _, _, rfl, rfl, sqT_fwd ns f12 ht, at_of (j := 1) rfl rfl, p, _, rfl, DPut.k (k := Sum.inr x) hp2 hlen, ?_⟩
      have f3 : Fwd r H (upd H2 p (.dK (putK kvs (Sum.inr x) z))) := f12.late hpn
      have pre3 : LPre K pool D most (upd H2 p (.dK (putK kvs (Sum.inr x) z))) r m2 u s1 d k := ⟨run2.dict hp2 nrp pm2, pre2.good, pre2.ix⟩
      have cp : Carry K FRl p H2 (upd H2 p (.dK (putK kvs (Sum.inr x) z))) := carryD hp2 Fwd.own
      have c12 := pre.run.carry f12
      have em2 : Ext H m m2 := (Ext.refl (H := H) (m := m)).trans hm2 fun y hy => f1.non ⟨_, hr1⟩ hy
      have rel3 : KVR K FRl (upd H2 p (.dK (putK kvs (Sum.inr x) z))) (m2 ++ [p]) (putK kvs (Sum.inr x) z) (envPut (s1.env k) x v) := by
        rw [ek]
        exact kvr_put (kvr_carry cp ⟨[p], rfl⟩ (kvr_carry c12 em2.ex rel)) (repV_carry cp ⟨[p], rfl⟩ rep2)
      have pre4 := pre3.snoc nrp.symm ⟨_, upd_same, rel3⟩ (((pre2.good.env k).put hx gv).mono (Nat.le_add_right _ 1))
      generalize upd H2 p (.dK (putK kvs (Sum.inr x) z)) = H3 at f3 pre3 cp rel3 pre4
      obtain ⟨⟨sp3, hr3⟩, _⟩ := id pre4.run
      refine ⟨_, rfl, _, rfl, t, _, _, _, rfl, rfl, sqT_fwd ns f3 ht, at_of (j := 3) rfl rfl, _, rfl, ?_⟩
      refine ⟨r, p, x3, rfl, .inl ⟨b, m2 ++ [p], _, _, pre4, dp_fwd ns f3 h3, hb, trivial, ?_⟩⟩
      exact q.imp f3 (em2.trans (Ext.one hpn) fun y hy => hy) ⟨_, hr3⟩
  · obtain ⟨fs, b, rfl, hfs, hfw, hfl, hb⟩ := wf_ring hwf hf
    obtain ⟨t, x0, x1, x2, rfl, ht, h0', h1, h2⟩ := dp_tup3 hdp
    have e0 := dp_str h0'
    subst e0
    obtain ⟨fa, ys, rfl, hfa, hys⟩ := dp_tup h1
    have lys : ys.length = fs.length := by
      rw [dpall_len hys, List.length_map]
    have nfap : ∀ {H' : Hp}, Fwd r H H' → SqT K H' fa ys := fun {H'} f => sqT_fwd ns f hfa
    rw [EV_eq, ev_ring, ← EV_eq] at q
    have hix : (m ++ [p])[st.envs.length]? = some p := by
      rw [← ev.len, List.getElem?_append_right (Nat.le_refl _), Nat.sub_self]
      rfl
    refine ⟨_, rfl, t, _, _, _, rfl, rfl, sqT_fwd ns f1 ht, at_of (j := 0) rfl rfl, rfl, _, rfl, iteFr (by decide +kernel) ?_⟩
    refine ⟨_, rfl, t, _, _, _, rfl, rfl, sqT_fwd ns f1 ht, at_of (j := 0) rfl rfl, rfl, _, rfl, iteTr (by decide +kernel) ?_⟩
    refine ⟨_, rfl, t, _, _, _, rfl, rfl, sqT_fwd ns f1 ht, at_of (j := 1) rfl rfl, fa, rfl, ⟨ys, nfap f1⟩, for_tup (K := K) (a := fa) (xs := ys) (fun i σ H' => ∃ (o1 o2 o3 : Option V) (kv' : List (L2.Key × V)) (e' : Env),
        σ = [some (.ref r), some (.ref t), some (.ref d), some (.ref p), o1, o2, o3, none, none, none] ∧ Fwd r H H' ∧ H' r = H r ∧ H' p = some (.dK kv') ∧ KVR K FRl H' (m ++ [p]) kv' e' ∧ GoodE pool D (st.envs.length + 1) e' ∧
        ringPut st.envs.length (fs.map fun f => .tuple [.str f.1, .str f.2.1, f.2.2]) (st.env k) = ringPut st.envs.length ((fs.map fun f => PyData.tuple [.str f.1, .str f.2.1, f.2.2]).drop i) e')
      ⟨_, _, _, kvs, st.env k, rfl, f1, e1r, hp1, kvr_carry (pre.run.carry f1) ⟨[p], rfl⟩ rel, (pre.good.env k).mono (Nat.le_add_right _ 1), rfl⟩ ?_ ?_ ?_⟩
    · rintro i σ H' _ ⟨_, _, _, _, _, _, f1, _⟩
      exact nfap f1
    · rintro i y σ H' hi ⟨o1, o2, o3, kv', e', rfl, f1, hr1, hp1, rel1, good1, eq1⟩
      have hil : i < fs.length := by
        rw [← lys]
        exact (List.getElem?_eq_some_iff.mp hi).1
      have efs : fs[i]? = some fs[i] := List.getElem?_eq_getElem hil
      have edrop : (fs.map fun f => PyData.tuple [.str f.1, .str f.2.1, f.2.2]).drop i = .tuple [.str fs[i].1, .str fs[i].2.1, fs[i].2.2] :: (fs.map fun f => PyData.tuple [.str f.1, .str f.2.1, f.2.2]).drop (i + 1) := by
        rw [List.drop_eq_getElem_cons (by rw [List.length_map]; exact hil), List.getElem_map]
      obtain ⟨z, hz, hzd⟩ := dpall_get (i := i) hys (by rw [List.getElem?_map, efs]; rfl)
      rw [hi] at hz
      cases hz
      obtain ⟨ya, y0, y1, y2, rfl, hya, g0, g1, g2⟩ := dp_tup3 (dp_fwd ns f1 hzd)
      have e0 := dp_str g0
      have e1 := dp_str g1
      subst e0 e1
      refine ⟨ya, _, rfl, hya, rfl, _, _, rfl, _, _, rfl, _, _, rfl, rfl, ?_⟩
      have hr1' : H' r = some (.dK (wF sp "" most st.begun (10 - (u : Int)))) := by
        rw [hr1]
        exact h0
      -- [thing, body, inner]
      refine ⟨_, rfl, _, rfl, _, rfl, (by show 3 ≤ sizeLine; decide), fun x nx => ?_⟩
      have npx : p ≠ x := ne_of_none hp1 nx
      have nrx : r ≠ x := ne_of_none hr1' nx
      have fA : Fwd r H' (upd H' x (.lst [.str fs[i].2.1, y2, .ref p])) := Fwd.new nx
      have hAr : upd H' x (.lst [.str fs[i].2.1, y2, .ref p]) r = H r := by
        rw [upd_ne nrx]
        exact hr1
      have hAp : upd H' x (.lst [.str fs[i].2.1, y2, .ref p]) p = some (.dK kv') := by
        rw [upd_ne npx]
        exact hp1
      have hAx : upd H' x (.lst [.str fs[i].2.1, y2, .ref p]) x = some (.lst [.str fs[i].2.1, y2, .ref p]) := upd_same
      generalize upd H' x (.lst [.str fs[i].2.1, y2, .ref p]) = HA at fA hAr hAp hAx
      have hlen : kv'.length < sizeLine := by
        rw [kvr_len rel1]
        exact small1000 (Nat.le_trans good1.len hp)
      refine ⟨_, rfl, _, rfl, p, _, rfl, DPut.k (k := Sum.inr fs[i].1) hAp hlen, ?_⟩
      have cA : Carry K FRl r H' HA := carryD hr1' fA
      have c3 : Carry K FRl p HA (upd HA p (.dK (putK kv' (Sum.inr fs[i].1) (.ref x)))) := carryD hAp Fwd.own
      have mf := List.getElem_mem hil
      refine ⟨_, _, _, _, envPut e' fs[i].1 (.fn fs[i].2.1 fs[i].2.2 st.envs.length), rfl, (f1.trans fA).late hpn, by rw [upd_ne nrp]; exact hAr, upd_same, ?_, good1.put (hfs _ mf).1 (.fn (hfs _ mf).2 ((hfw _ mf).mono (by omega)) (Nat.lt_succ_self _)), ?_⟩
      · refine kvr_put (kvr_carry c3 ⟨[], (List.append_nil _).symm⟩ (kvr_carry cA ⟨[], (List.append_nil _).symm⟩ rel1)) (.fn (c3.fr _ _ _ _ hAx) (dp_fwd c3.ns c3.fw (dp_fwd cA.ns fA g2)) hix)
      · rw [eq1, edrop]
        rfl
    · rintro σ H' ⟨o1, o2, o3, kv', e', rfl, f1, hr1, hp1, rel1, good1, eq1⟩
      rw [List.drop_eq_nil_of_le (by rw [List.length_map, lys]; exact Nat.le_refl _)] at eq1
      have eq1 : ringPut st.envs.length (fs.map fun f => .tuple [.str f.1, .str f.2.1, f.2.2]) (st.env k) = e' := eq1
      rw [eq1] at q
      have hr1' : H' r = some (.dK (wF sp "" most st.begun (10 - (u : Int)))) := by
        rw [hr1]
        exact h0
      have pre2 := (pre.fwd f1 hr1).snoc nrp.symm ⟨kv', hp1, rel1⟩ good1
      refine ⟨_, rfl, _, rfl, t, _, _, _, rfl, rfl, sqT_fwd ns f1 ht, at_of (j := 2) rfl rfl, _, rfl, ?_⟩
      exact ⟨r, p, x2, rfl, .inl ⟨b, m ++ [p], _, _, pre2, dp_fwd ns f1 h2, hb, trivial, q.imp f1 (Ext.one hpn) ⟨_, hr1'⟩⟩⟩
  · obtain ⟨c, a, b, rfl, hc, ha, hb⟩ := wf_if hwf hf
    obtain ⟨t, x0, x1, x2, x3, rfl, ht, h0', h1, h2, h3⟩ := dp_tup4 hdp
    have e0 := dp_str h0'
    subst e0
    refine ⟨_, rfl, t, _, _, _, rfl, rfl, sqT_fwd ns f1 ht, at_of (j := 0) rfl rfl, rfl, _, rfl, iteFr (by decide +kernel) ?_⟩
    refine ⟨_, rfl, t, _, _, _, rfl, rfl, sqT_fwd ns f1 ht, at_of (j := 0) rfl rfl, rfl, _, rfl, iteFr (by decide +kernel) ?_⟩
    refine ⟨_, rfl, t, _, _, _, rfl, rfl, sqT_fwd ns f1 ht, at_of (j := 0) rfl rfl, rfl, _, rfl, iteFr (by decide +kernel) ?_⟩
    refine ⟨_, rfl, _, rfl, _, rfl, t, _, _, _, rfl, rfl, sqT_fwd ns f1 ht, at_of (j := 0) rfl rfl, rfl, .inr ⟨_, rfl, ?_⟩⟩
    refine ⟨_, _, rfl, rfl, t, _, _, _, rfl, rfl, sqT_fwd ns f1 ht, at_of (j := 1) (by decide +kernel) rfl, _, rfl, ?_⟩
    refine ⟨r, d, x1, rfl, .inl ⟨c, m, k, st, pre1, dp_fwd ns f1 h1, hc, trivial, ?_⟩⟩
    rw [EV_eq, ev_if, ← EV_eq] at q
    have nopick : ∀ {H' : Hp}, Fwd r H H' → SqT K H' t [.str "if", x1, x2, x3] := fun f => sqT_fwd ns f ht
    cases e : EV D most u n c k st with
    | bad g s1 =>
      rw [e] at q
      intro H2 y f2 dead2 by2
      have f12 := f1.trans f2
      refine ⟨_, rfl, t, _, _, _, rfl, rfl, nopick f12, at_of (j := 0) rfl rfl, rfl, _, rfl, iteFr (by decide +kernel) ?_⟩
      have dead2' := dead2
      obtain ⟨hg, a1, a2, a3, a4, a5⟩ := dead2'
      cases by2 with
      | non =>
        refine ⟨_, rfl, _, _, _, _, _, rfl, .ty _, .base .non, kit_ty (r := false) (by decide +kernel), _, rfl, iteTr rfl ?_⟩
        refine ⟨_, rfl, r, _, a1, _, _, _, _, rfl, a5, fun _ => ?_, fun z => absurd z hg⟩
        exact q _ _ f12 dead2 .non
      | int i =>
        refine ⟨_, rfl, _, _, _, _, _, rfl, .ty _, .base (.int i), kit_ty (r := true) (by decide +kernel), _, rfl, iteFr rfl ?_⟩
        refine ⟨_, rfl, _, rfl, _, rfl, rfl, .inr ⟨_, rfl, ?_⟩⟩
        by_cases hi : i = 0
        · subst hi
          refine ⟨_, _, rfl, rfl, t, _, _, _, rfl, rfl, nopick f12, at_of (j := 3) (by decide +kernel) rfl, _, rfl, ?_⟩
          exact ⟨r, d, x3, rfl, .inr ⟨_, dead2, q _ _ f12 dead2 .non⟩⟩
        · have e1 : decide (V.int i = V.int 0) = false := decide_eq_false (fun z => hi (V.int.inj z))
          rw [e1]
          refine ⟨_, _, rfl, rfl, t, _, _, _, rfl, rfl, nopick f12, at_of (j := 2) (by decide +kernel) rfl, _, rfl, ?_⟩
          exact ⟨r, d, x2, rfl, .inr ⟨_, dead2, q _ _ f12 dead2 .non⟩⟩
    | ok v s1 =>
      rw [e] at q
      intro H2 m2 z f2 run2 hm2 rep2
      obtain ⟨pre2, gv, ek⟩ := pre1.then (by omega) hc e hm2 run2
      obtain ⟨tz, tyz, kz⟩ := rep_intL rep2
      obtain ⟨⟨sp2, hr2⟩, _⟩ := id run2
      have f12 := f1.trans f2
      have em2 : Ext H m m2 := (Ext.refl (H := H) (m := m)).trans hm2 fun y hy => f1.non ⟨_, hr1⟩ hy
      refine ⟨_, rfl, t, _, _, _, rfl, rfl, nopick f12, at_of (j := 0) rfl rfl, rfl, _, rfl, iteFr (by decide +kernel) ?_⟩
      refine ⟨_, rfl, _, _, _, _, _, rfl, .ty _, tyz, kz, _, rfl, ?_⟩
      cases v with
      | blk w' vs =>
        refine iteTr rfl ⟨_, rfl, r, _, sp2, "", _, _, _, rfl, hr2, fun z => absurd rfl z, fun _ => ?_⟩
        exact q _ _ (f12.trans Fwd.own) ⟨fName_ne .stuck, _, _, _, _, upd_same⟩ .non
      | fn x' b' k' =>
        refine iteTr rfl ⟨_, rfl, r, _, sp2, "", _, _, _, rfl, hr2, fun z => absurd rfl z, fun _ => ?_⟩
        exact q _ _ (f12.trans Fwd.own) ⟨fName_ne .stuck, _, _, _, _, upd_same⟩ .non
      | num i =>
        have ez : z = .int i := by
          cases rep2
          rfl
        subst ez
        have q : RetW K most H r m u (if i ≠ 0 then EV D most u n a k s1 else EV D most u n b k s1) Q := q
        refine iteFr rfl ⟨_, rfl, _, rfl, _, rfl, rfl, .inr ⟨_, rfl, ?_⟩⟩
        by_cases hi : i = 0
        · subst hi
          rw [if_neg (fun z => z rfl)] at q
          refine ⟨_, _, rfl, rfl, t, _, _, _, rfl, rfl, nopick f12, at_of (j := 3) (by decide +kernel) rfl, _, rfl, ?_⟩
          exact ⟨r, d, x3, rfl, .inl ⟨b, m2, k, s1, pre2, dp_fwd ns f12 h3, hb, trivial, q.imp f12 em2 ⟨_, hr2⟩⟩⟩
        · have e1 : decide (V.int i = V.int 0) = false := decide_eq_false (fun z => hi (V.int.inj z))
          rw [if_pos hi] at q
          rw [e1]
          refine ⟨_, _, rfl, rfl, t, _, _, _, rfl, rfl, nopick f12, at_of (j := 2) (by decide +kernel) rfl, _, rfl, ?_⟩
          exact ⟨r, d, x2, rfl, .inl ⟨a, m2, k, s1, pre2, dp_fwd ns f12 h2, ha, trivial, q.imp f12 em2 ⟨_, hr2⟩⟩⟩
end
end FW

set_option Elab.async false
set_option linter.all false
set_option maxRecDepth 100000
set_option maxHeartbeats 8000000
/-! LE: the law's own walk: any phrase. -/
namespace FW
open PySem PySem.Spec PyProof.Rows L2

theorem wf_cases {pool : List Str} {n : Nat} {p : PyData} (h : Wf pool (n + 1) p) :
    (∃ i, p = .int i) ∨ (∃ w, p = .str w ∧ w.cps.toList ≠ [] ∧ w.length ≤ 1000) ∨ (∃ x b, p = .tuple [.str "fun", .str x, b] ∧ x ∈ pool ∧ Wf pool n b) ∨
    (∃ w a b, p = .tuple [.str w, a, b] ∧ (w = "call" ∨ OpW w) ∧ Wf pool n a ∧ Wf pool n b) ∨
    (∃ w ps, p = .tuple (.str w :: ps) ∧ (w = "let" ∨ w = "ring" ∨ w = "if") ∧ Bound p) := by
  cases h with
  | int _ => exact .inl ⟨_, rfl⟩
  | word h1 h2 => exact .inr (.inl ⟨_, rfl, h1, h2⟩)
  | fn h1 h2 => exact .inr (.inr (.inl ⟨_, _, rfl, h1, h2⟩))
  | call h1 h2 => exact .inr (.inr (.inr (.inl ⟨_, _, _, rfl, .inl rfl, h1, h2⟩)))
  | op h0 h1 h2 => exact .inr (.inr (.inr (.inl ⟨_, _, _, rfl, .inr h0, h1, h2⟩)))
  | iff _ _ _ => exact .inr (.inr (.inr (.inr ⟨_, _, rfl, .inr (.inr rfl), .inr (.inr ⟨_, rfl⟩)⟩)))
  | lett _ _ _ => exact .inr (.inr (.inr (.inr ⟨_, _, rfl, .inl rfl, .inl ⟨_, rfl⟩⟩)))
  | ring _ _ _ _ => exact .inr (.inr (.inr (.inr ⟨_, _, rfl, .inr (.inl rfl), .inr (.inl ⟨_, rfl⟩)⟩)))

section
variable {P : Program} {w : World} {K : PySem.W.Frag} {mg : Str → Option Value} {base : Heap} {f : Addr} {fd : FuncData} {pool : List Str} {D : Nat} {most : Int}
theorem carryLL {H : Hp} {L : Addr} {us us' : List V} (h : H L = some (.lst us)) (hn : ∀ x pb d, us ≠ [.str x, pb, .ref d]) : Carry K FRl L H (upd H L (.lst us')) :=
  ⟨noSeqL h, Fwd.own, fun a x pb d q => by
    have q' : H a = some (.lst [.str x, pb, .ref d]) := q
    show upd H L (.lst us') a = _
    by_cases e : a = L
    · subst e
      rw [h] at q'
      injection q' with q'
      injection q' with q'
      exact absurd q' (hn x pb d)
    · rw [upd_ne e]
      exact q'⟩
theorem LPre.lst {H : Hp} {r d L : Addr} {m : List Addr} {u k : Nat} {s : MS} {us us' : List V} (h : LPre K pool D most H r m u s d k) (hL : H L = some (.lst us)) (hn : ∀ x pb d, us ≠ [.str x, pb, .ref d]) : LPre K pool D most (upd H L (.lst us')) r m u s d k := by
  obtain ⟨R, g, i⟩ := h
  obtain ⟨⟨sp, hr⟩, ev⟩ := id R
  refine ⟨⟨⟨sp, ?_⟩, envsAt_carryP (carryLL hL hn) (fun e he z => ?_) ev⟩, g, i⟩
  · rw [upd_ne (ne_of hr hL (by intro z; cases z))]
    exact hr
  · obtain ⟨_, kv, hk⟩ := R.mem he
    rw [z, hL] at hk
    cases hk
theorem repVs_nostr {H : Hp} {m : List Addr} {us : List V} {vs : List Val} (h : RepVs K FRl H m us vs) (x : Str) (pb : V) (d : Addr) : us ≠ [.str x, pb, .ref d] := fun e => by
  subst e
  cases h with
  | cons h _ => cases h

/-! ### _law_value -/
abbrev s__law_value : Stmt := top 30
def N__law_value : List Str := ["_law_world_here", "_law_phrase", "_law_names_here", "_law_values", "_law_one"]
theorem sc__law_value : FnScope N__law_value ["_law_world_here", "_law_phrase", "_law_names_here"] (defScope s__law_value) := ⟨rfl, rfl, rfl, by decide +kernel, rfl, by decide +kernel, by decide +kernel⟩
theorem ok__law_value {u n lv : Nat} (F : Fun K "_law_value" "_law_value" s__law_value f fd) (T : LT mg) (hp : pool.length ≤ 1000) (hn : n + 1 ≤ D) (hlv : 2 ≤ lv)
    (c__law_fault : CalN P w K mg base CX0 1 "_law_fault" ["_law_world_here", "_law_word"] spFault)
    (c__law_reckoned : CalN P w K mg base CX0 2 "_law_reckoned" ["_law_world_here", "_law_word", "_law_one", "_law_other"] (spLReck K most u))
    (c__law_called : CalN P w K mg base CX0 lv "_law_called" ["_law_world_here", "_law_function", "_law_thing"] (spLCalled K pool D most u))
    (c__law_bound : CalN P w K mg base CX0 lv "_law_bound" ["_law_world_here", "_law_phrase", "_law_names_here"] (spLBound K pool D most u (n + 1)))
    (c__law_value : CalN P w K mg base CX0 lv "_law_value" ["_law_world_here", "_law_phrase", "_law_names_here"] (spLVal K pool D most u n)) :
    FnN P w K mg base CX0 (lv + 1) f fd ["_law_world_here", "_law_phrase", "_law_names_here"] (spLVal K pool D most u (n + 1)) := by
  refine okN0 F sc__law_value (fun vs H Q E h => ?_) (fun cdv A' outer s H vs Q E hr h => ?_)
  · obtain ⟨_, _, _, rfl, _⟩ := h
    rfl
  obtain ⟨r, d, phv, rfl, h⟩ := h
  have hu := hr.hu
  refine ⟨_, (pss_cons (ps_if (pt_cmpR op_ne (pe_dget hu (pv 0) pe_str (fun _ _ => rfl)) pe_str (nomark _))
    (pss_one (ps_ret pe_non))
    pss_nil)
  (pss_cons (ps_if (pt_val (pe_callB call_isi (by rfl) T.z_isinstance (by decide +kernel) (pa_cons (pv 1) (pa_cons (pe_tyN (n := "int") (by rfl) T.z_int (by decide +kernel)) pa_nil))))
    (pss_one (ps_ret (pv 1)))
    pss_nil)
  (pss_cons (ps_if (pt_val (pe_callB call_isi (by rfl) T.z_isinstance (by decide +kernel) (pa_cons (pv 1) (pa_cons (pe_tyN (n := "str") (by rfl) T.z_str (by decide +kernel)) pa_nil))))
    (pss_cons (ps_if (PW.pt (pw_and (pt_cmpR op_notIn_sign pe_str (pv 1) (by rfl)) (pw_and1 (pt_cmpR op_in_sign (pe_ix ix_str (pv 1) pe_int (fun _ _ => rfl)) pe_str (by rfl)))))
      (pss_one (ps_ret (pe_tup (pa_cons (pv 1) pa_nil))))
      pss_nil)
    (pss_cons (ps_if (pt_cmp (pc_dnotin hu (pv 1) (pv 2)))
      (pss_one (ps_expr (pe_cN c__law_fault hr (by rfl) pass0 (pa_cons (pv 0) (pa_cons pe_str pa_nil)))))
      pss_nil)
    (pss_one (ps_ret (pe_dget1 hu (pv 2) (pv 1) ⟨rfl, by rfl, rfl, by rfl⟩)))))
    pss_nil)
  (pss_cons (ps_if (pt_cmpR op_eq (pe_ix ix_tup (pv 1) pe_int (fun _ _ => rfl)) pe_str (nomark _))
    (pss_one (ps_ret (pe_lst (pa_cons (pe_ix ix_tup (pv 1) pe_int (fun _ _ => rfl)) (pa_cons (pe_ix ix_tup (pv 1) pe_int (fun _ _ => rfl)) (pa_cons (pv 2) pa_nil))))))
    pss_nil)
  (pss_cons (ps_if (pt_cmpR op_in_seq (pe_ix ix_tup (pv 1) pe_int (fun _ _ => rfl)) (pe_tup (pa_cons pe_str (pa_cons pe_str (pa_cons pe_str (pa_cons pe_str (pa_cons pe_str pa_nil)))))) (by rfl))
    (pss_one (ps_ret (pe_cN c__law_bound hr (by rfl) pass0 (pa_cons (pv 0) (pa_cons (pv 1) (pa_cons (pv 2) pa_nil))))))
    pss_nil)
  (pss_cons (ps_setLc (i := 3) (own := [("_law_one", 4)]) rfl sc__law_value.nd rfl rfl (sw_true rfl rfl rfl (by decide +kernel)) (pi_tup (pe_slice sl_tup (pv 1) (po_some (pe_op op_add pe_int (pe_callTy call_int1 (by rfl) T.z_int (by decide +kernel) (pa_cons (pe_cmpR op_eq (pe_ix ix_tup (pv 1) pe_int (fun _ _ => rfl)) pe_str (nomark _)) pa_nil)))) po_none)) (blkOk_by (own := [("_law_one", 4)]) (N := N__law_value) (sc := defScope s__law_value) (by decide +kernel)) (fun _ _ _ _ _ => (pg_name (i := 4) sc__law_value.nd rfl (.inl rfl))) (fun _ _ _ _ _ => pts_nil) (fun _ _ _ _ _ => (pe_cN c__law_value hr (by rfl) pass0 (pa_cons (pv 0) (pa_cons (pv 4) (pa_cons (pv 2) pa_nil))))))
  (pss_cons (ps_if (pt_cmpR op_eq (pe_ix ix_tup (pv 1) pe_int (fun _ _ => rfl)) pe_str (nomark _))
    (pss_one (ps_ret (pe_cN c__law_called hr (by rfl) pass0 (pa_cons (pv 0) (pa_cons (pe_ix ix_list (pv 3) pe_int (fun _ _ => rfl)) (pa_cons (pe_ix ix_list (pv 3) pe_int (fun _ _ => rfl)) pa_nil))))))
    pss_nil)
  (pss_cons (ps_if (pt_cmpR op_in_seq (pe_ix ix_tup (pv 1) pe_int (fun _ _ => rfl)) (pe_tup (pa_cons pe_str (pa_cons pe_str (pa_cons pe_str (pa_cons pe_str pa_nil))))) (by rfl))
    (pss_one (ps_ret (pe_cN c__law_reckoned hr (by rfl) pass0 (pa_cons (pv 0) (pa_cons (pe_ix ix_tup (pv 1) pe_int (fun _ _ => rfl)) (pa_cons (pe_ix ix_list (pv 3) pe_int (fun _ _ => rfl)) (pa_cons (pe_ix ix_list (pv 3) pe_int (fun _ _ => rfl)) pa_nil)))))))
    pss_nil)
  (pss_one (ps_ret (pe_op op_catT (pe_tup (pa_cons (pe_ix ix_tup (pv 1) (pe_callTy call_int1 (by rfl) T.z_int (by decide +kernel) (pa_cons (pe_cmpR op_eq (pe_ix ix_tup (pv 1) pe_int (fun _ _ => rfl)) pe_str (nomark _)) pa_nil)) (fun _ _ => rfl)) pa_nil)) (pe_callTy call_tuple_of (by rfl) T.z_tuple (by decide +kernel) (pa_cons (pv 3) pa_nil))))))))))))), ?_⟩
  rcases h with ⟨ph, m, k, st, pre, hdp, hwf, _, q⟩ | ⟨g, ⟨hg, sp, mo, bg, un, h0⟩, q⟩
  · obtain ⟨⟨sp, h0⟩, ev⟩ := id pre.run
    have ns := pre.run.ns
    refine ⟨_, rfl, r, _, rfl, gWord h0, rfl, _, rfl, iteFr (by decide +kernel) ?_⟩
    rcases wf_cases hwf with ⟨i, rfl⟩ | ⟨wd, rfl, hw, hl⟩ | ⟨x, b, rfl, hx, hb⟩ | ⟨wd, a, b, rfl, hw, ha, hb⟩ | ⟨wd, ps, rfl, hw, hB⟩
    · have e := dp_int hdp
      subst e
      refine ⟨_, rfl, _, _, _, _, _, rfl, .ty _, .base (.int i), kit_ty (r := true) (by decide +kernel), _, rfl, iteTr rfl ⟨_, rfl, ?_⟩⟩
      rw [EV_eq, ev_int] at q
      exact q H m _ (Fwd.refl r H) pre.run Ext.refl (.num i)
    · have e := dp_str hdp
      subst e
      refine ⟨_, rfl, _, _, _, _, _, rfl, .ty _, .base (.str wd), kit_ty (r := false) (by decide +kernel), _, rfl, iteFr rfl ?_⟩
      refine ⟨_, rfl, _, _, _, _, _, rfl, .ty _, .base (.str wd), kit_ty (r := true) (by decide +kernel), _, rfl, iteTr rfl ?_⟩
      rw [EV_eq, ev_word] at q
      have nb : ∀ {H' : Hp} {o : V}, True := fun {_ _} => trivial
      obtain ⟨ndr, kvs, hd, rel⟩ := pre.env
      have look : isTag wd = false → RetW K most H r m u (match envGet (st.env k) wd with
          | some v => .ok v st
          | none => .bad .stuck st) Q := fun e => by
        rw [e, if_neg Bool.false_ne_true] at q
        exact q
      cases hx : wd.cps.toList with
      | nil => exact absurd hx hw
      | cons c rr =>
        have et : isTag wd = ((!decide (46 ∈ wd.cps.toList)) && decide (c ∈ ("ABCDEFGHIJKLMNOPQRSTUVWXYZ" : Str).cps.toList)) := by
          unfold isTag
          rw [hx]
        rw [hx] at et
        refine ⟨_, rfl, 46, wd, rfl, rfl, _, rfl, ?_⟩
        rw [hx]
        by_cases hd46 : 46 ∈ c :: rr
        · have ht : isTag wd = false := by rw [et, decide_eq_true hd46]; rfl
          refine iteFr (by rw [decide_eq_true hd46]; rfl) (iteF ?_)
          have q := look ht
          have hg : DGet H d (kV (Sum.inr wd)) (valV kvs (Sum.inr wd)) := DGet.k hd
          refine ⟨_, rfl, _, rfl, d, _, rfl, hg, _, rfl, ?_⟩
          rcases kvr_get (x := wd) rel with ⟨e1, e2⟩ | ⟨z, v, e1, e2, rv⟩
          · rw [e1]
            rw [e2] at q
            refine iteTr rfl ⟨_, rfl, r, _, sp, "", _, _, _, rfl, h0, fun z => absurd rfl z, fun _ => ?_⟩
            have hd' : upd H r (.dK (wF sp "stuck" most st.begun (10 - (u : Int)))) d = some (.dK kvs) := (upd_ne ndr).trans hd
            refine ⟨_, rfl, d, rfl, .inl ⟨_, .inl hd'⟩, _, rfl, valV kvs (Sum.inr wd), DGet.k (k := Sum.inr wd) hd', ?_⟩
            rw [e1]
            exact q _ _ Fwd.own ⟨fName_ne .stuck, _, _, _, _, upd_same⟩ .non
          · rw [e1]
            rw [e2] at q
            refine iteFr rfl ?_
            refine ⟨_, rfl, d, rfl, .inl ⟨_, .inl hd⟩, _, rfl, valV kvs (Sum.inr wd), hg, ?_⟩
            rw [e1]
            exact q H m z (Fwd.refl r H) pre.run Ext.refl rv
        · by_cases hc : c ∈ ("ABCDEFGHIJKLMNOPQRSTUVWXYZ" : Str).cps.toList
          · have ht : isTag wd = true := by rw [et, decide_eq_false hd46, decide_eq_true hc]; rfl
            refine iteTr (by rw [decide_eq_false hd46]; rfl) ⟨_, rfl, wd, 0, c, rfl, rfl, Nat.le_of_lt (small1000 hl), by rw [hx]; exact atI_nat (j := 0) rfl, c, _, rfl, rfl, _, rfl, iteTr (decide_eq_true hc) ?_⟩
            rw [ht, if_pos rfl] at q
            refine ⟨_, rfl, (by show 1 ≤ sizeLine; decide), fun p hpn => ?_⟩
            exact q _ m _ (Fwd.new hpn) (pre.run.fwd (Fwd.new hpn) (upd_ne (ne_of_none h0 hpn))) Ext.refl (.blk (.inl (.inl upd_same)) .nil)
          · have ht : isTag wd = false := by rw [et, decide_eq_false hd46, decide_eq_false hc]; rfl
            refine iteTr (by rw [decide_eq_false hd46]; rfl) ⟨_, rfl, wd, 0, c, rfl, rfl, Nat.le_of_lt (small1000 hl), by rw [hx]; exact atI_nat (j := 0) rfl, c, _, rfl, rfl, _, rfl, iteFr (decide_eq_false hc) ?_⟩
            have q := look ht
            have hg : DGet H d (kV (Sum.inr wd)) (valV kvs (Sum.inr wd)) := DGet.k hd
            refine ⟨_, rfl, _, rfl, d, _, rfl, hg, _, rfl, ?_⟩
            rcases kvr_get (x := wd) rel with ⟨e1, e2⟩ | ⟨z, v, e1, e2, rv⟩
            · rw [e1]
              rw [e2] at q
              refine iteTr rfl ⟨_, rfl, r, _, sp, "", _, _, _, rfl, h0, fun z => absurd rfl z, fun _ => ?_⟩
              have hd' : upd H r (.dK (wF sp "stuck" most st.begun (10 - (u : Int)))) d = some (.dK kvs) := (upd_ne ndr).trans hd
              refine ⟨_, rfl, d, rfl, .inl ⟨_, .inl hd'⟩, _, rfl, valV kvs (Sum.inr wd), DGet.k (k := Sum.inr wd) hd', ?_⟩
              rw [e1]
              exact q _ _ Fwd.own ⟨fName_ne .stuck, _, _, _, _, upd_same⟩ .non
            · rw [e1]
              rw [e2] at q
              refine iteFr rfl ?_
              refine ⟨_, rfl, d, rfl, .inl ⟨_, .inl hd⟩, _, rfl, valV kvs (Sum.inr wd), hg, ?_⟩
              rw [e1]
              exact q H m z (Fwd.refl r H) pre.run Ext.refl rv
    · obtain ⟨t, x0, x1, x2, rfl, ht, h0', h1, h2⟩ := dp_tup3 hdp
      have e0 := dp_str h0'
      have e1 := dp_str h1
      subst e0 e1
      refine ⟨_, rfl, _, _, _, _, _, rfl, .ty _, tyT ht, kit_ty (r := false) (by decide +kernel), _, rfl, iteFr rfl ?_⟩
      refine ⟨_, rfl, _, _, _, _, _, rfl, .ty _, tyT ht, kit_ty (r := false) (by decide +kernel), _, rfl, iteFr rfl ?_⟩
      refine ⟨_, rfl, t, _, _, _, rfl, rfl, ht, at_of (j := 0) rfl rfl, rfl, _, rfl, iteTr rfl ?_⟩
      rw [EV_eq, ev_fn] at q
      refine ⟨_, rfl, t, _, _, _, rfl, rfl, ht, at_of (j := 1) rfl rfl, _, rfl, t, _, _, _, rfl, rfl, ht, at_of (j := 2) rfl rfl, _, rfl, (by show 3 ≤ sizeLine; decide), fun y ny => ?_⟩
      have f1 : Fwd r H (upd H y (.lst [.str x, x2, .ref d])) := Fwd.new ny
      exact q _ m _ f1 (pre.run.fwd f1 (upd_ne (ne_of_none h0 ny))) Ext.refl (.fn upd_same (dp_fwd ns f1 h2) pre.ix)
    · obtain ⟨t, x0, x1, x2, rfl, ht, h0', h1, h2⟩ := dp_tup3 hdp
      have e0 := dp_str h0'
      subst e0
      have nfun : decide (V.str wd = V.str "fun") = false := by rcases hw with rfl | rfl | rfl | rfl | rfl <;> rfl
      have nin : inV (V.str wd) [.str "let", .str "ring", .str "case", .str "if", .str "pick"] = false := by rcases hw with rfl | rfl | rfl | rfl | rfl <;> rfl
      have nmake : decide (V.str wd = V.str "make") = false := by rcases hw with rfl | rfl | rfl | rfl | rfl <;> rfl
      refine ⟨_, rfl, _, _, _, _, _, rfl, .ty _, tyT ht, kit_ty (r := false) (by decide +kernel), _, rfl, iteFr rfl ?_⟩
      refine ⟨_, rfl, _, _, _, _, _, rfl, .ty _, tyT ht, kit_ty (r := false) (by decide +kernel), _, rfl, iteFr rfl ?_⟩
      refine ⟨_, rfl, t, _, _, _, rfl, rfl, ht, at_of (j := 0) rfl rfl, rfl, _, rfl, iteFr nfun ?_⟩
      refine ⟨_, rfl, t, _, _, _, rfl, rfl, ht, at_of (j := 0) rfl rfl, (by show 5 ≤ sizeLine; decide), fun T1 hT1 => ⟨T1, _, rfl, .inr (.inl (.inl upd_same)), rfl, rfl, _, rfl, iteFr nin ?_⟩⟩
      have f1 : Fwd r H (upd H T1 (.tup [.str "let", .str "ring", .str "case", .str "if", .str "pick"])) := Fwd.new hT1
      have nr1 : r ≠ T1 := ne_of_none h0 hT1
      have pre1 := pre.fwd f1 (upd_ne nr1)
      have hr1 : (upd H T1 (.tup [.str "let", .str "ring", .str "case", .str "if", .str "pick"])) r = _ := (upd_ne nr1).trans h0
      generalize upd H T1 (.tup [.str "let", .str "ring", .str "case", .str "if", .str "pick"]) = H1 at f1 pre1 hr1
      refine ⟨_, rfl, _, rfl, t, _, _, _, rfl, rfl, sqT_fwd ns f1 ht, at_of (j := 0) rfl rfl, rfl, .inr ⟨_, rfl, ?_⟩⟩
      rw [nmake]
      refine ⟨_, _, rfl, rfl, _, rfl, t, _, rfl, sqT_fwd ns f1 ht, (by intro z; exact absurd z.1 (by show ¬ (1 : Nat) = 0; decide)), fun S hS => ?_⟩
      have f2 : Fwd r H1 (upd H1 S (.tup [x1, x2])) := Fwd.new hS
      have nr2 : r ≠ S := ne_of_none hr1 hS
      have pre2 := pre1.fwd f2 (upd_ne nr2)
      have ns1 := pre1.run.ns
      have hS2 : SqT K (upd H1 S (.tup [x1, x2])) S [x1, x2] := .inl (.inl upd_same)
      have hr2 : (upd H1 S (.tup [x1, x2])) r = _ := (upd_ne nr2).trans hr1
      refine ⟨S, rfl, ⟨[x1, x2], hS2⟩, fun L hL => ?_⟩
      have f12 := f1.trans f2
      have hds : DqAll K (upd H1 S (.tup [x1, x2])) [x1, x2] [a, b] := .cons (dp_fwd ns f12 h1) (.cons (dp_fwd ns f12 h2) .nil)
      have hL : (upd H1 S (.tup [x1, x2])) L = none := hL
      rw [show cutV [V.str wd, x1, x2] (some (1 + if false = true then 1 else 0)) none = [x1, x2] from rfl]
      generalize upd H1 S (.tup [x1, x2]) = H2 at f2 pre2 hS2 hr2 f12 hds hL
      have nrL : r ≠ L := ne_of_none hr2 hL
      have f0 : Fwd r H2 (upd H2 L (.lst [])) := Fwd.new hL
      have ns2 := pre2.run.ns
      obtain ⟨G, hG, hGc⟩ : ∃ G : List Val → MS → Out Val, EV D most u (n + 1) (.tuple [.str wd, a, b]) k st = (evs (EV D most u n) [a, b] k st).then G ∧
          (∀ v z s1, G [v, z] s1 = if wd = "call" then EC D most u v z s1 else reck wd v z s1) := by
        rcases hw with rfl | hw
        · exact ⟨fun vs s1 => EC D most u (vs.getD 0 (.num 0)) (vs.getD 1 (.num 0)) s1, by rw [EV_eq, ev_call], fun v z s1 => by rw [if_pos rfl]; rfl⟩
        · refine ⟨fun vs s1 => reck wd (vs.getD 0 (.num 0)) (vs.getD 1 (.num 0)) s1, by rw [EV_eq, ev_op hw], fun v z s1 => ?_⟩
          rw [if_neg (by rcases hw with rfl | rfl | rfl | rfl <;> decide +kernel)]
          rfl
      rw [hG] at q
      have hwf2 : ∀ p ∈ [a, b], Wf pool n p := fun p hp => by
        rcases List.mem_cons.mp hp with rfl | hp
        · exact ha
        · rw [List.mem_singleton] at hp
          exact hp ▸ hb
      refine lc_tup (K := K) (a := S) (xs := [x1, x2]) (fun i H' => Fwd r H2 H' ∧ ∃ us : List V, H' L = some (.lst us) ∧ us.length = i ∧
        ((∃ (vs : List Val) (si : MS) (mi : List Addr), RepVs K FRl H' mi us vs ∧ LPre K pool D most H' r mi u si d k ∧ Ext H2 m mi ∧
          evs (EV D most u n) [a, b] k st = (evs (EV D most u n) (([a, b] : List PyData).drop i) k si).then fun ws s' => .ok (vs ++ ws) s') ∨
         (∃ g s1, (∀ x ∈ us, Okv K H' x) ∧ Dead H' r (fName g) ∧ evs (EV D most u n) [a, b] k st = .bad g s1)))
        ⟨f0, [], upd_same, rfl, .inl ⟨[], st, m, .nil, pre2.fwd f0 (upd_ne nrL), Ext.refl, (then_ok _).symm⟩⟩ ?_ ?_ ?_
      · rintro i H' _ ⟨f1, _⟩
        exact sqT_fwd ns2 f1 hS2
      · rintro i y H3 hi ⟨f3, us, hL3, hlen, hcase⟩
        have hil : i < ([a, b] : List PyData).length := (List.getElem?_eq_some_iff.mp hi).1
        have hus : us.length + 1 ≤ sizeLine := by
          rw [hlen]
          have : i < 2 := hil
          exact Nat.le_trans (show i + 1 ≤ 2 by omega) (by decide)
        have edrop : ([a, b] : List PyData).drop i = ([a, b] : List PyData)[i] :: ([a, b] : List PyData).drop (i + 1) := List.drop_eq_getElem_cons hil
        obtain ⟨z, hz, hzd⟩ := dpall_get (i := i) hds (List.getElem?_eq_getElem hil)
        rw [hi] at hz
        cases hz
        refine ⟨rfl, ?_⟩
        rcases hcase with ⟨vs, si, mi, rep1, pre3, ext1, eq1⟩ | ⟨g, s1, okus, dead, eq1⟩
        · obtain ⟨⟨sp3, hr3⟩, _⟩ := id pre3.run
          refine ⟨_, rfl, _, rfl, _, rfl, ?_⟩
          refine ⟨r, d, y, rfl, .inl ⟨([a, b] : List PyData)[i], mi, k, si, pre3, dp_fwd ns2 f3 hzd, hwf2 _ (List.getElem_mem hil), trivial, ?_⟩⟩
          rw [edrop] at eq1
          have eq2 : evs (EV D most u n) [a, b] k st = (((EV D most u n ([a, b] : List PyData)[i] k si).then fun v s1 => (evs (EV D most u n) (([a, b] : List PyData).drop (i + 1)) k s1).then fun ws s2 => .ok (v :: ws) s2).then fun ws s' => .ok (vs ++ ws) s') := eq1
          cases e : EV D most u n ([a, b] : List PyData)[i] k si with
          | bad g s1 =>
            rw [e] at eq2
            have eq3 : evs (EV D most u n) [a, b] k st = .bad g s1 := eq2
            intro H4 z f4 dead4 bz
            have hL4 : H4 L = some (.lst us) := f4 _ _ hL3 nrL.symm
            refine ⟨us, hL4, hus, (f3.trans f4).late hL, us ++ [z], upd_same, by rw [List.length_append, hlen]; rfl, .inr ⟨g, s1, ?_, ?_, eq3⟩⟩
            · intro x hx
              rcases List.mem_append.mp hx with hx | hx
              · have : ∀ {us : List V} {vs : List Val}, RepVs K FRl H3 mi us vs → ∀ x ∈ us, Okv K H3 x := by
                  intro us vs h
                  induction us generalizing vs with
                  | nil => exact fun x hx => by cases hx
                  | cons u us ih =>
                    cases h with
                    | cons h t =>
                      intro x hx
                      rcases List.mem_cons.mp hx with rfl | hx
                      · exact h.ok
                      · exact ih t x hx
                exact ((this rep1 x hx).fwd hr3 f4).list hL4
              · rw [List.mem_singleton] at hx
                subst hx
                exact bz.ok
            · obtain ⟨z1, a1, a2, a3, a4, a5⟩ := dead4
              exact ⟨z1, a1, a2, a3, a4, by rw [upd_ne nrL]; exact a5⟩
          | ok v s1 =>
            rw [e] at eq2
            intro H4 m4 z f4 run4 hm4 rep4
            obtain ⟨pre4, gv, _⟩ := pre3.then (by omega) (hwf2 _ (List.getElem_mem hil)) e hm4 run4
            have c34 := pre3.run.carry f4
            have hL4 : H4 L = some (.lst us) := f4 _ _ hL3 nrL.symm
            have rep4' := repVs_carry c34 hm4.ex rep1
            have cL : Carry K FRl L H4 (upd H4 L (.lst (us ++ [z]))) := carryLL hL4 (repVs_nostr rep4')
            refine ⟨us, hL4, hus, (f3.trans f4).late hL, us ++ [z], upd_same, by rw [List.length_append, hlen]; rfl, .inl ⟨vs ++ [v], s1, m4, ?_, ?_, ext1.trans hm4 fun p hp => f3.non ⟨_, hr3⟩ hp, ?_⟩⟩
            · exact repVs_snoc (repVs_carry cL ⟨[], (List.append_nil _).symm⟩ rep4') (repV_carry cL ⟨[], (List.append_nil _).symm⟩ rep4)
            · exact pre4.lst hL4 (repVs_nostr rep4')
            · rw [eq2]
              show ((evs (EV D most u n) (([a, b] : List PyData).drop (i + 1)) k s1).then fun ws s2 => Out.ok (v :: ws) s2).then (fun ws s' => Out.ok (vs ++ ws) s') = _
              cases evs (EV D most u n) (([a, b] : List PyData).drop (i + 1)) k s1 with
              | bad g s2 => rfl
              | ok ws s2 =>
                show Out.ok (vs ++ v :: ws) s2 = Out.ok (vs ++ [v] ++ ws) s2
                rw [List.append_assoc]
                rfl
        · refine ⟨_, rfl, _, rfl, _, rfl, ?_⟩
          refine ⟨r, d, y, rfl, .inr ⟨_, dead, ?_⟩⟩
          refine ⟨us, hL3, hus, f3.late hL, us ++ [.non], upd_same, by rw [List.length_append, hlen]; rfl, .inr ⟨g, s1, ?_, ?_, eq1⟩⟩
          · intro x hx
            rcases List.mem_append.mp hx with hx | hx
            · exact (okus x hx).list hL3
            · rw [List.mem_singleton] at hx
              subst hx
              exact .non
          · obtain ⟨z1, a1, a2, a3, a4, a5⟩ := dead
            exact ⟨z1, a1, a2, a3, a4, by rw [upd_ne nrL]; exact a5⟩
      · rintro H3 ⟨f3, us, hL3, hlen, hcase⟩
        have f123 := f12.trans f3
        have ht3 := sqT_fwd ns f123 ht
        refine ⟨_, rfl, t, _, _, _, rfl, rfl, ht3, at_of (j := 0) rfl rfl, rfl, _, rfl, ?_⟩
        obtain ⟨y1, y2, rfl⟩ : ∃ y1 y2, us = [y1, y2] := by
          cases us with
          | nil => cases hlen
          | cons y1 us =>
            cases us with
            | nil => cases hlen
            | cons y2 us =>
              cases us with
              | nil => exact ⟨y1, y2, rfl⟩
              | cons _ _ => cases hlen
        rcases hcase with ⟨vs, s1, m3, rep3, pre3, ext3, eq1⟩ | ⟨g, s1, okus, dead, eq1⟩
        · have eq2 : evs (EV D most u n) [a, b] k st = .ok (vs ++ []) s1 := eq1
          rw [List.append_nil] at eq2
          rw [eq2] at q
          obtain ⟨v, z, rfl, gs, gv, gz⟩ := evs2 (by omega) ha hb pre.lt pre.good eq2
          have q : RetW K most H r m u (G [v, z] s1) Q := q
          rw [hGc] at q
          obtain ⟨⟨sp3, hr3⟩, _⟩ := id pre3.run
          have em3 : Ext H m m3 := Ext.refl.trans ext3 fun y hy => f12.non ⟨_, hr2⟩ hy
          cases rep3 with
          | cons r1 rest =>
            cases rest with
            | cons r2 rest =>
              cases rest
              rcases hw with rfl | hw
              · rw [if_pos rfl] at q
                refine iteTr (by decide +kernel) ⟨_, rfl, _, rfl, L, _, _, _, rfl, rfl, .inl (.inl hL3), at_of (j := 0) rfl rfl, _, rfl, L, _, _, _, rfl, rfl, .inl (.inl hL3), at_of (j := 1) rfl rfl, ?_⟩
                exact ⟨r, _, _, rfl, .inl ⟨v, z, m3, s1, pre3.run, gs, r1, r2, gv, gz, q.imp f123 em3 ⟨_, hr3⟩⟩⟩
              · have ncall : decide (V.str wd = V.str "call") = false := by rcases hw with rfl | rfl | rfl | rfl <;> rfl
                have nc : ¬ wd = "call" := fun e => by
                  rw [e] at ncall
                  exact absurd ncall (by decide +kernel)
                have yin : inV (V.str wd) [.str "plus", .str "minus", .str "times", .str "less"] = true := by rcases hw with rfl | rfl | rfl | rfl <;> rfl
                rw [if_neg nc] at q
                refine iteFr ncall ⟨_, rfl, t, _, _, _, rfl, rfl, ht3, at_of (j := 0) rfl rfl, (by show 4 ≤ sizeLine; decide), fun T2 hT2 => ⟨T2, _, rfl, .inr (.inl (.inl upd_same)), rfl, rfl, _, rfl, iteTr yin ?_⟩⟩
                have f4 : Fwd r H3 (upd H3 T2 (.tup [.str "plus", .str "minus", .str "times", .str "less"])) := Fwd.new hT2
                have nr4 : r ≠ T2 := ne_of_none hr3 hT2
                have run4 := pre3.run.fwd f4 (upd_ne nr4)
                have hL4 := f4 _ _ hL3 nrL.symm
                have c4 := pre3.run.carry f4
                refine ⟨_, rfl, _, rfl, t, _, _, _, rfl, rfl, sqT_fwd ns (f123.trans f4) ht, at_of (j := 0) rfl rfl, _, rfl, L, _, _, _, rfl, rfl, .inl (.inl hL4), at_of (j := 0) rfl rfl, _, rfl, L, _, _, _, rfl, rfl, .inl (.inl hL4), at_of (j := 1) rfl rfl, ?_⟩
                exact ⟨r, wd, _, _, rfl, .inl ⟨v, z, m3, s1, run4, hw, repV_carry c4 ⟨[], (List.append_nil _).symm⟩ r1, repV_carry c4 ⟨[], (List.append_nil _).symm⟩ r2, gnum gv, gnum gz, q.imp (f123.trans f4) em3 ⟨_, run4.ob.choose_spec⟩⟩⟩
        · rw [eq1] at q
          have q : ∀ (H' : Hp) (x : V), Fwd r H H' → Dead H' r (fName g) → BadV x → Q x H' := q
          have dead' := dead
          obtain ⟨hg, a1, a2, a3, a4, hr3⟩ := dead'
          rcases hw with rfl | hw
          · refine iteTr (by decide +kernel) ⟨_, rfl, _, rfl, L, _, _, _, rfl, rfl, .inl (.inl hL3), at_of (j := 0) rfl rfl, _, rfl, L, _, _, _, rfl, rfl, .inl (.inl hL3), at_of (j := 1) rfl rfl, ?_⟩
            exact ⟨r, _, _, rfl, .inr ⟨_, dead, okus _ (List.mem_cons_self ..), q _ _ f123 dead .non⟩⟩
          · have ncall : decide (V.str wd = V.str "call") = false := by rcases hw with rfl | rfl | rfl | rfl <;> rfl
            have yin : inV (V.str wd) [.str "plus", .str "minus", .str "times", .str "less"] = true := by rcases hw with rfl | rfl | rfl | rfl <;> rfl
            refine iteFr ncall ⟨_, rfl, t, _, _, _, rfl, rfl, ht3, at_of (j := 0) rfl rfl, (by show 4 ≤ sizeLine; decide), fun T2 hT2 => ⟨T2, _, rfl, .inr (.inl (.inl upd_same)), rfl, rfl, _, rfl, iteTr yin ?_⟩⟩
            have f4 : Fwd r H3 (upd H3 T2 (.tup [.str "plus", .str "minus", .str "times", .str "less"])) := Fwd.new hT2
            have nr4 : r ≠ T2 := ne_of_none hr3 hT2
            have hL4 := f4 _ _ hL3 nrL.symm
            have dead4 : Dead (upd H3 T2 (.tup [.str "plus", .str "minus", .str "times", .str "less"])) r (fName g) := ⟨hg, a1, a2, a3, a4, (upd_ne nr4).trans hr3⟩
            refine ⟨_, rfl, _, rfl, t, _, _, _, rfl, rfl, sqT_fwd ns (f123.trans f4) ht, at_of (j := 0) rfl rfl, _, rfl, L, _, _, _, rfl, rfl, .inl (.inl hL4), at_of (j := 0) rfl rfl, _, rfl, L, _, _, _, rfl, rfl, .inl (.inl hL4), at_of (j := 1) rfl rfl, ?_⟩
            exact ⟨r, wd, _, _, rfl, .inr ⟨_, dead4, q _ _ (f123.trans f4) dead4 .non⟩⟩
    · obtain ⟨t, xs, rfl, ht, hds⟩ := dp_tup hdp
      cases hds with
      | cons h0' hrest =>
        have e0 := dp_str h0'
        subst e0
        have nfun : decide (V.str wd = V.str "fun") = false := by rcases hw with rfl | rfl | rfl <;> rfl
        have yin : inV (V.str wd) [.str "let", .str "ring", .str "case", .str "if", .str "pick"] = true := by rcases hw with rfl | rfl | rfl <;> rfl
        refine ⟨_, rfl, _, _, _, _, _, rfl, .ty _, tyT ht, kit_ty (r := false) (by decide +kernel), _, rfl, iteFr rfl ?_⟩
        refine ⟨_, rfl, _, _, _, _, _, rfl, .ty _, tyT ht, kit_ty (r := false) (by decide +kernel), _, rfl, iteFr rfl ?_⟩
        refine ⟨_, rfl, t, _, _, _, rfl, rfl, ht, at_of (j := 0) rfl rfl, rfl, _, rfl, iteFr nfun ?_⟩
        refine ⟨_, rfl, t, _, _, _, rfl, rfl, ht, at_of (j := 0) rfl rfl, (by show 5 ≤ sizeLine; decide), fun T1 hT1 => ⟨T1, _, rfl, .inr (.inl (.inl upd_same)), rfl, rfl, _, rfl, iteTr yin ?_⟩⟩
        have f1 : Fwd r H (upd H T1 (.tup [.str "let", .str "ring", .str "case", .str "if", .str "pick"])) := Fwd.new hT1
        have nr1 : r ≠ T1 := ne_of_none h0 hT1
        have pre1 := pre.fwd f1 (upd_ne nr1)
        have hr1 : (upd H T1 (.tup [.str "let", .str "ring", .str "case", .str "if", .str "pick"])) r = _ := (upd_ne nr1).trans h0
        exact ⟨_, rfl, _, rfl, _, rfl, r, d, _, rfl, _, m, k, st, pre1, dp_fwd ns f1 hdp, hwf, hB, q.imp f1 Ext.refl ⟨_, hr1⟩⟩
  · have n1 : decide (V.str g = V.str "") = false := decide_eq_false (fun z => hg (V.str.inj z))
    have n2 : (!decide (V.str g = V.str "")) = true := by rw [n1]; rfl
    exact ⟨_, rfl, r, _, rfl, gWord h0, rfl, _, rfl, iteTr n2 q⟩

/-- behind a fault nothing is done -/
theorem ok__law_value0 {u lv : Nat} (F : Fun K "_law_value" "_law_value" s__law_value f fd) (T : LT mg)
    (c__law_fault : CalN P w K mg base CX0 0 "_law_fault" ["_law_world_here", "_law_word"] (fun _ _ _ _ => False))
    (c__law_reckoned : CalN P w K mg base CX0 0 "_law_reckoned" ["_law_world_here", "_law_word", "_law_one", "_law_other"] (fun _ _ _ _ => False))
    (c__law_called : CalN P w K mg base CX0 0 "_law_called" ["_law_world_here", "_law_function", "_law_thing"] (fun _ _ _ _ => False))
    (c__law_bound : CalN P w K mg base CX0 0 "_law_bound" ["_law_world_here", "_law_phrase", "_law_names_here"] (fun _ _ _ _ => False))
    (c__law_value : CalN P w K mg base CX0 0 "_law_value" ["_law_world_here", "_law_phrase", "_law_names_here"] (fun _ _ _ _ => False)) :
    FnN P w K mg base CX0 (lv + 1) f fd ["_law_world_here", "_law_phrase", "_law_names_here"] (spLVal K pool D most u 0) := by
  refine okN0 F sc__law_value (fun vs H Q E h => ?_) (fun cdv A' outer s H vs Q E hr h => ?_)
  · obtain ⟨_, _, _, rfl, _⟩ := h
    rfl
  obtain ⟨r, d, phv, rfl, h⟩ := h
  have hu := hr.hu
  refine ⟨_, (pss_cons (ps_if (pt_cmpR op_ne (pe_dget hu (pv 0) pe_str (fun _ _ => rfl)) pe_str (nomark _))
    (pss_one (ps_ret pe_non))
    pss_nil)
  (pss_cons (ps_if (pt_val (pe_callB call_isi (by rfl) T.z_isinstance (by decide +kernel) (pa_cons (pv 1) (pa_cons (pe_tyN (n := "int") (by rfl) T.z_int (by decide +kernel)) pa_nil))))
    (pss_one (ps_ret (pv 1)))
    pss_nil)
  (pss_cons (ps_if (pt_val (pe_callB call_isi (by rfl) T.z_isinstance (by decide +kernel) (pa_cons (pv 1) (pa_cons (pe_tyN (n := "str") (by rfl) T.z_str (by decide +kernel)) pa_nil))))
    (pss_cons (ps_if (PW.pt (pw_and (pt_cmpR op_notIn_sign pe_str (pv 1) (by rfl)) (pw_and1 (pt_cmpR op_in_sign (pe_ix ix_str (pv 1) pe_int (fun _ _ => rfl)) pe_str (by rfl)))))
      (pss_one (ps_ret (pe_tup (pa_cons (pv 1) pa_nil))))
      pss_nil)
    (pss_cons (ps_if (pt_cmp (pc_dnotin hu (pv 1) (pv 2)))
      (pss_one (ps_expr (pe_cN c__law_fault hr (by rfl) pass0 (pa_cons (pv 0) (pa_cons pe_str pa_nil)))))
      pss_nil)
    (pss_one (ps_ret (pe_dget1 hu (pv 2) (pv 1) ⟨rfl, by rfl, rfl, by rfl⟩)))))
    pss_nil)
  (pss_cons (ps_if (pt_cmpR op_eq (pe_ix ix_tup (pv 1) pe_int (fun _ _ => rfl)) pe_str (nomark _))
    (pss_one (ps_ret (pe_lst (pa_cons (pe_ix ix_tup (pv 1) pe_int (fun _ _ => rfl)) (pa_cons (pe_ix ix_tup (pv 1) pe_int (fun _ _ => rfl)) (pa_cons (pv 2) pa_nil))))))
    pss_nil)
  (pss_cons (ps_if (pt_cmpR op_in_seq (pe_ix ix_tup (pv 1) pe_int (fun _ _ => rfl)) (pe_tup (pa_cons pe_str (pa_cons pe_str (pa_cons pe_str (pa_cons pe_str (pa_cons pe_str pa_nil)))))) (by rfl))
    (pss_one (ps_ret (pe_cN c__law_bound hr (by rfl) pass0 (pa_cons (pv 0) (pa_cons (pv 1) (pa_cons (pv 2) pa_nil))))))
    pss_nil)
  (pss_cons (ps_setLc (i := 3) (own := [("_law_one", 4)]) rfl sc__law_value.nd rfl rfl (sw_true rfl rfl rfl (by decide +kernel)) (pi_tup (pe_slice sl_tup (pv 1) (po_some (pe_op op_add pe_int (pe_callTy call_int1 (by rfl) T.z_int (by decide +kernel) (pa_cons (pe_cmpR op_eq (pe_ix ix_tup (pv 1) pe_int (fun _ _ => rfl)) pe_str (nomark _)) pa_nil)))) po_none)) (blkOk_by (own := [("_law_one", 4)]) (N := N__law_value) (sc := defScope s__law_value) (by decide +kernel)) (fun _ _ _ _ _ => (pg_name (i := 4) sc__law_value.nd rfl (.inl rfl))) (fun _ _ _ _ _ => pts_nil) (fun _ _ _ _ _ => (pe_cN c__law_value hr (by rfl) pass0 (pa_cons (pv 0) (pa_cons (pv 4) (pa_cons (pv 2) pa_nil))))))
  (pss_cons (ps_if (pt_cmpR op_eq (pe_ix ix_tup (pv 1) pe_int (fun _ _ => rfl)) pe_str (nomark _))
    (pss_one (ps_ret (pe_cN c__law_called hr (by rfl) pass0 (pa_cons (pv 0) (pa_cons (pe_ix ix_list (pv 3) pe_int (fun _ _ => rfl)) (pa_cons (pe_ix ix_list (pv 3) pe_int (fun _ _ => rfl)) pa_nil))))))
    pss_nil)
  (pss_cons (ps_if (pt_cmpR op_in_seq (pe_ix ix_tup (pv 1) pe_int (fun _ _ => rfl)) (pe_tup (pa_cons pe_str (pa_cons pe_str (pa_cons pe_str (pa_cons pe_str pa_nil))))) (by rfl))
    (pss_one (ps_ret (pe_cN c__law_reckoned hr (by rfl) pass0 (pa_cons (pv 0) (pa_cons (pe_ix ix_tup (pv 1) pe_int (fun _ _ => rfl)) (pa_cons (pe_ix ix_list (pv 3) pe_int (fun _ _ => rfl)) (pa_cons (pe_ix ix_list (pv 3) pe_int (fun _ _ => rfl)) pa_nil)))))))
    pss_nil)
  (pss_one (ps_ret (pe_op op_catT (pe_tup (pa_cons (pe_ix ix_tup (pv 1) (pe_callTy call_int1 (by rfl) T.z_int (by decide +kernel) (pa_cons (pe_cmpR op_eq (pe_ix ix_tup (pv 1) pe_int (fun _ _ => rfl)) pe_str (nomark _)) pa_nil)) (fun _ _ => rfl)) pa_nil)) (pe_callTy call_tuple_of (by rfl) T.z_tuple (by decide +kernel) (pa_cons (pv 3) pa_nil))))))))))))), ?_⟩
  rcases h with ⟨ph, m, k, st, pre, hdp, hwf, _, q⟩ | ⟨g, ⟨hg, sp, mo, bg, un, h0⟩, q⟩
  · cases hwf
  · have n1 : decide (V.str g = V.str "") = false := decide_eq_false (fun z => hg (V.str.inj z))
    have n2 : (!decide (V.str g = V.str "")) = true := by rw [n1]; rfl
    exact ⟨_, rfl, r, _, rfl, gWord h0, rfl, _, rfl, iteTr n2 q⟩

/-! ### the knot -/
structure CAt (K : PySem.W.Frag) (mg : Str → Option Value) (x : Str) (st : Stmt) (ps : List Str) : Prop where
  ex : ∃ f fd, mg x = some (.ref f) ∧ PySem.W.keepIn K (.ref f) = true ∧ Fun K x x st f fd ∧ Binds K fd ps []
theorem CAt.cal {x : Str} {st : Stmt} {ps : List Str} {CX : CXT} {n : Nat} {sp : Sp} (M : CAt K mg x st ps) (h : ∀ f fd, Fun K x x st f fd → FnN P w K mg base CX n f fd ps sp) : CalN P w K mg base CX n x ps sp := by
  obtain ⟨f, fd, a, b, c, d⟩ := M.ex
  exact ⟨f, fd, a, b, d, h f fd c⟩
theorem CAt.never {x : Str} {st : Stmt} {ps : List Str} {CX : CXT} {n : Nat} (M : CAt K mg x st ps) : CalN P w K mg base CX n x ps (fun _ _ _ _ => False) :=
  M.cal fun f fd _ => FnN.never fun _ _ _ _ h => h
theorem CalN.up {x : Str} {ps : List Str} {CX : CXT} {n m : Nat} {sp : Sp} (c : CalN P w K mg base CX n x ps sp) (h : n ≤ m) : CalN P w K mg base CX m x ps sp := by
  obtain ⟨f, fd, a, b, d, F⟩ := c.ex
  exact ⟨f, fd, a, b, d, F.mono h⟩
structure Lt (K : PySem.W.Frag) (mg : Str → Option Value) : Prop where
  t : LT mg
  fault : CAt K mg "_law_fault" s__law_fault ["_law_world_here", "_law_word"]
  called : CAt K mg "_law_called" s__law_called ["_law_world_here", "_law_function", "_law_thing"]
  reckoned : CAt K mg "_law_reckoned" s__law_reckoned ["_law_world_here", "_law_word", "_law_one", "_law_other"]
  chosen : CAt K mg "_law_chosen" (top 28) ["_law_world_here", "_law_phrase", "_law_names_here"]
  bound : CAt K mg "_law_bound" s__law_bound ["_law_world_here", "_law_phrase", "_law_names_here"]
  value : CAt K mg "_law_value" s__law_value ["_law_world_here", "_law_phrase", "_law_names_here"]
theorem c_fault (M : Lt K mg) : CalN P w K mg base CX0 1 "_law_fault" ["_law_world_here", "_law_word"] spFault := M.fault.cal fun f fd F => ok__law_fault F
theorem c_reckoned {u : Nat} (M : Lt K mg) : CalN P w K mg base CX0 2 "_law_reckoned" ["_law_world_here", "_law_word", "_law_one", "_law_other"] (spLReck K most u) := M.reckoned.cal fun f fd F => ok__law_reckoned F M.t (c_fault M)
theorem lknot1 {u cl : Nat} (M : Lt K mg) (hp : pool.length ≤ 1000) (hcl : 2 ≤ cl)
    (c_called : CalN P w K mg base CX0 cl "_law_called" ["_law_world_here", "_law_function", "_law_thing"] (spLCalled K pool D most u)) :
    ∀ n, n ≤ D → CalN P w K mg base CX0 (cl + 2 * n + 1) "_law_value" ["_law_world_here", "_law_phrase", "_law_names_here"] (spLVal K pool D most u n)
  | 0, _ => M.value.cal fun f fd F => ok__law_value0 F M.t M.fault.never M.reckoned.never M.called.never M.bound.never M.value.never
  | n + 1, hn => by
    have c_value := lknot1 M hp hcl c_called n (by omega)
    have c_bound : CalN P w K mg base CX0 (cl + 2 * n + 1 + 1) "_law_bound" ["_law_world_here", "_law_phrase", "_law_names_here"] (spLBound K pool D most u (n + 1)) :=
      M.bound.cal fun f fd F => ok__law_bound F M.t hp hn (by omega) (c_fault M) M.chosen.never c_value
    refine M.value.cal fun f fd F => ?_
    have := ok__law_value (lv := cl + 2 * n + 1 + 1) F M.t hp hn (by omega) (c_fault M) (c_reckoned M) (c_called.up (by omega)) c_bound (c_value.up (by omega))
    exact this
theorem lknot (M : Lt K mg) (hp : pool.length ≤ 1000) :
    ∀ u, u ≤ 10 → CalN P w K mg base CX0 (u * (2 * D + 2) + 2) "_law_called" ["_law_world_here", "_law_function", "_law_thing"] (spLCalled K pool D most u)
  | 0, h => (M.called.cal fun f fd F => ok__law_called (lv := 1) F M.t hp h (by omega) (c_fault M) (M.value.never) (fun u' e => by cases e)).up (by omega)
  | u + 1, h => by
    have c_called := lknot M hp u (by omega)
    have c_value := lknot1 M hp (by omega) c_called D (Nat.le_refl _)
    refine CalN.up (M.called.cal fun f fd F => ok__law_called (u := u + 1) F M.t hp h (by omega) (c_fault M) c_value fun u' e => by
      cases e
      rfl) ?_
    rw [Nat.add_mul]
    omega
theorem lvalue_ok (M : Lt K mg) (hp : pool.length ≤ 1000) {n : Nat} (hn : n ≤ D) :
    CalN P w K mg base CX0 (10 * (2 * D + 2) + 2 + 2 * n + 1) "_law_value" ["_law_world_here", "_law_phrase", "_law_names_here"] (spLVal K pool D most 10 n) :=
  lknot1 M hp (by omega) (lknot M hp 10 (Nat.le_refl _)) n hn
end
end FW

set_option Elab.async false
set_option linter.all false
set_option maxRecDepth 100000
set_option maxHeartbeats 8000000
/-! LF: the law's own run. -/
namespace FW
open PySem PySem.Spec PyProof.Rows L2

/-! ### what is never reached -/
section
variable {X : Cx}
theorem pe_dead {e : Expr} : PE X e (fun _ _ _ => False) := ⟨fun _ _ _ _ _ _ h => h.elim⟩
theorem pts_dead {e : List Expr} : PTs X e (fun _ _ _ => False) := ⟨fun _ _ _ _ _ _ h => h.elim⟩
end

/-- what a run comes to -/
def resO : Out Val → Fault ⊕ Int
  | .ok (.num i) _ => .inr i
  | .ok _ _ => .inl .stuck
  | .bad g _ => .inl g
def begO : Out Val → Int
  | .ok _ s => s.begun
  | .bad _ _ => 0

section
variable {P : Program} {w : World} {K : PySem.W.Frag} {mg : Str → Option Value} {base : Heap} {f : Addr} {fd : FuncData} {pool : List Str} {D : Nat}

/-! ### _law_world -/
abbrev s__law_world : Stmt := top 24
def N__law_world : List Str := ["_law_program", "_law_most", "_law_world_here", "_law_declaration", "_law_place", "_law_field"]
theorem sc__law_world : FnScope N__law_world ["_law_program", "_law_most"] (defScope s__law_world) := ⟨rfl, rfl, rfl, by decide +kernel, rfl, by decide +kernel, by decide +kernel⟩
def spWorld (K : PySem.W.Frag) : Sp := fun vs H Q _ => ∃ (v : V) (ph : PyData) (n : Int), vs = [v, .int n] ∧ Dq K H v (mainP ph) ∧
  ∀ r L H', H r = none → Kps H H' → H' r = some (.dK (wF (.ref L) "" (maxI n) 0 0)) → Q (.ref r) H'
theorem ok__law_world (F : Fun K "_law_world" "_law_world" s__law_world f fd) (T : LT mg) : FnN P w K mg base CX0 1 f fd ["_law_program", "_law_most"] (spWorld K) := by
  refine okN0 F sc__law_world (fun vs H Q E h => ?_) (fun cdv A' outer s H vs Q E hr h => ?_)
  · obtain ⟨_, _, _, rfl, _⟩ := h
    rfl
  obtain ⟨v, ph, n, rfl, hdp, q⟩ := h
  have hu := hr.hu
  obtain ⟨t, t1, pv', rfl, ht, ht1, hpv⟩ := dp_main hdp
  refine ⟨_, (pss_cons (ps_set (i := 2) sc__law_world.nd rfl (Or.inl rfl) (pe_disp (pps_cons pe_str (pe_callB (call_max2 rfl) (by rfl) T.z_max (by decide +kernel) (pa_cons pe_int (pa_cons (pv 1) pa_nil))) (pps_cons pe_str pe_int (pps_cons pe_str pe_int (pps_cons pe_str pe_str (pps_cons pe_str pe_dnewK pps_nil))))) (by rfl) (by rfl) (fun z => by cases z) (by decide)))
  (pss_cons (ps_for PassesOwn.never rfl (pi_tup (pv 0)) (pg_name (i := 3) sc__law_world.nd rfl (.inl rfl))
    (pss_one (ps_if (pt_cmpR op_eq (pe_ix ix_tup (pv 3) pe_int (fun _ _ => rfl)) pe_str (nomark _))
      pss_dead
      pss_nil)))
  (pss_one (ps_ret (pv 2))))), ?_⟩
  intro r hr0
  refine ⟨_, rfl, _, _, rfl, ?_⟩
  intro L hL
  have hrL : (upd H r (.dK [])) r = some (.dK []) := upd_same
  have nrL : r ≠ L := ne_of_none hrL hL
  refine ⟨by rw [upd_ne nrL]; exact hrL, wF (.ref L) "" (maxI n) 0 0, rfl, (by show 5 ≤ 15; decide), ?_⟩
  have k1 : Kps H (upd (upd H r (.dK [])) L (.dK [])) := (Kps.new hr0).trans (Kps.new hL)
  have k2 : Kps H (upd (upd (upd H r (.dK [])) L (.dK [])) r (.dK (mergeK [] (wF (.ref L) "" (maxI n) 0 0)))) := k1.late hr0
  have h2 : (upd (upd (upd H r (.dK [])) L (.dK [])) r (.dK (mergeK [] (wF (.ref L) "" (maxI n) 0 0)))) r = some (.dK (wF (.ref L) "" (maxI n) 0 0)) := upd_same
  generalize upd (upd (upd H r (.dK [])) L (.dK [])) r (.dK (mergeK [] (wF (.ref L) "" (maxI n) 0 0))) = H2 at k2 h2
  refine ⟨_, rfl, t, rfl, ⟨[.ref t1], sqT_kps k2 ht⟩, for_tup (K := K) (a := t) (xs := [.ref t1]) (fun i σ H' => ∃ o, σ = [some (.ref t), some (.int n), some (.ref r), o, none, none] ∧ H' = H2)
    ⟨none, rfl, rfl⟩ ?_ ?_ ?_⟩
  · rintro i σ H' _ ⟨_, _, rfl⟩
    exact sqT_kps k2 ht
  · rintro i y σ H' hi ⟨o, rfl, rfl⟩
    have ey : y = .ref t1 := by
      cases i with
      | zero => cases hi; rfl
      | succ i => cases hi
    subst ey
    refine ⟨_, rfl, t1, _, _, _, rfl, rfl, sqT_kps k2 ht1, at_of (j := 0) rfl rfl, rfl, _, rfl, iteFr (by decide +kernel) ?_⟩
    exact ⟨_, rfl, rfl⟩
  · rintro σ H' ⟨o, rfl, rfl⟩
    exact ⟨_, rfl, q r L _ hr0 k2 h2⟩

/-! ### _law_ran -/
abbrev s__law_ran : Stmt := top 32
def N__law_ran : List Str := ["_law_program", "_law_most", "_law_world_here", "_law_paths", "_law_makers", "_law_declaration", "_law_inner", "_law_body", "_law_giver", "_law_part", "_law_path", "_law_vals_here", "_law_name", "_law_made"]
theorem sc__law_ran : FnScope N__law_ran ["_law_program", "_law_most"] (defScope s__law_ran) := ⟨rfl, rfl, rfl, by decide +kernel, rfl, by decide +kernel, by decide +kernel⟩
def spRan (K : PySem.W.Frag) (pool : List Str) (D : Nat) : Sp := fun vs H Q _ => ∃ (v : V) (ph : PyData) (n : Int), vs = [v, .int n] ∧ Dq K H v (mainP ph) ∧ Wf pool D ph ∧
  match resO (ranO D n ph) with
  | .inr i => ∀ H' T, Kps H H' → H' T = some (.tup [.str "", .int i, .int (begO (ranO D n ph))]) → Q (.ref T) H'
  | .inl g => ∀ H' T x b, Kps H H' → H' T = some (.tup [.str (fName g), x, .int b]) → Q (.ref T) H'
theorem ok__law_ran {lv : Nat} (F : Fun K "_law_ran" "_law_ran" s__law_ran f fd) (T : LT mg) (hlv : 1 ≤ lv)
    (c__law_world : CalN P w K mg base CX0 1 "_law_world" ["_law_program", "_law_most"] (spWorld K))
    (c__law_fault : CalN P w K mg base CX0 1 "_law_fault" ["_law_world_here", "_law_word"] spFault)
    (c__law_value : ∀ n, CalN P w K mg base CX0 lv "_law_value" ["_law_world_here", "_law_phrase", "_law_names_here"] (spLVal K pool D (maxI n) 10 D)) :
    FnN P w K mg base CX0 (lv + 1) f fd ["_law_program", "_law_most"] (spRan K pool D) := by
  refine okN0 F sc__law_ran (fun vs H Q E h => ?_) (fun cdv A' outer s H vs Q E hr h => ?_)
  · obtain ⟨_, _, _, rfl, _⟩ := h
    rfl
  obtain ⟨v, ph, n, rfl, hdp, hwf, q⟩ := h
  have hu := hr.hu
  obtain ⟨t, t1, pv', rfl, ht, ht1, hpv⟩ := dp_main hdp
  refine ⟨_, (pss_cons (ps_set (i := 2) sc__law_ran.nd rfl (Or.inl rfl) (pe_cN c__law_world hr (by rfl) pass0 (pa_cons (pv 0) (pa_cons (pv 1) pa_nil))))
  (pss_cons (ps_set (i := 3) sc__law_ran.nd rfl (Or.inl rfl) pe_dnewK)
  (pss_cons (ps_set (i := 4) sc__law_ran.nd rfl (Or.inl rfl) (pe_callTy (call_dictP rfl) (by rfl) T.z_dict (by decide +kernel) (pa_cons (pe_lc (own := [("_law_declaration", 5)]) rfl sc__law_ran.nd (pi_tup (pe_slice sl_tup (pv 0) po_none (po_some (pe_un un_neg pe_int)))) (blkOk_by (own := [("_law_declaration", 5)]) (N := N__law_ran) (sc := defScope s__law_ran) (by decide +kernel)) (fun _ _ _ _ _ => (pg_name (i := 5) sc__law_ran.nd rfl (.inl rfl))) (fun _ _ _ _ _ => pts_dead) (fun _ _ _ _ _ => pe_dead)) pa_nil)))
  (pss_cons (ps_for PassesOwn.never rfl (pi_tup (pe_slice sl_tup (pv 0) po_none (po_some (pe_un un_neg pe_int)))) (pg_name (i := 5) sc__law_ran.nd rfl (.inl rfl))
    pss_dead)
  (pss_cons (ps_set (i := 13) sc__law_ran.nd rfl (Or.inl rfl) (pe_cN (c__law_value n) hr (by rfl) pass0 (pa_cons (pv 2) (pa_cons (pe_ix ix_tup (pe_ix ix_tup (pv 0) (pe_un un_neg pe_int) (fun _ _ => rfl)) pe_int (fun _ _ => rfl)) (pa_cons (pv 3) pa_nil)))))
  (pss_cons (ps_if (pt_not (pt_val (pe_callB call_isi (by rfl) T.z_isinstance (by decide +kernel) (pa_cons (pv 13) (pa_cons (pe_tyN (n := "int") (by rfl) T.z_int (by decide +kernel)) pa_nil)))))
    (pss_one (ps_expr (pe_cN c__law_fault hr (by rfl) pass0 (pa_cons (pv 2) (pa_cons pe_str pa_nil)))))
    pss_nil)
  (pss_one (ps_ret (pe_tup (pa_cons (pe_dget hu (pv 2) pe_str (fun _ _ => rfl)) (pa_cons (pv 13) (pa_cons (pe_dget hu (pv 2) pe_str (fun _ _ => rfl)) pa_nil)))))))))))), ?_⟩
  refine ⟨_, rfl, _, rfl, _, ph, n, rfl, hdp, fun r L H1 hr0 k1 h1 => fun d hd => ?_⟩
  have k2 : Kps H1 (upd H1 d (.dK [])) := Kps.new hd
  have hd2 : (upd H1 d (.dK [])) d = some (.dK []) := upd_same
  generalize upd H1 d (.dK []) = H2 at k2 hd2
  have k12 := k1.trans k2
  have h2 := k2 _ _ h1
  -- makers
  refine ⟨_, rfl, 1, rfl, _, rfl, t, _, rfl, sqT_kps k12 ht, (by intro z; exact absurd z.2 (by show ¬ (0 : Nat) = 1; decide)), fun S hS => ?_⟩
  have k3 : Kps H2 (upd H2 S (.tup (cutV [.ref t1] none (some (-1))))) := Kps.new hS
  have hS3 : SqT K (upd H2 S (.tup (cutV [.ref t1] none (some (-1))))) S [] := .inl (.inl upd_same)
  generalize upd H2 S (.tup (cutV [.ref t1] none (some (-1)))) = H3 at k3 hS3
  refine ⟨S, rfl, ⟨[], hS3⟩, fun L1 hL1 => ?_⟩
  have k4 : Kps H3 (upd H3 L1 (.lst [])) := Kps.new hL1
  refine lc_tup (K := K) (a := S) (xs := []) (tt := fun _ _ _ => False) (te := fun _ _ _ => False) (g := gName 5) (fun i H' => H' = upd H3 L1 (.lst [])) rfl ?_ ?_ ?_
  · rintro i H' _ rfl
    exact sqT_kps k4 hS3
  · rintro i y H' hi
    cases hi
  rintro _ rfl
  refine ⟨L1, [], [], rfl, .inl (.inl upd_same), .nil, fun M hM => ?_⟩
  have k5 : Kps (upd H3 L1 (.lst [])) (upd (upd H3 L1 (.lst [])) M (.dK (mergeK [] []))) := Kps.new hM
  have k15 := k12.trans (k3.trans (k4.trans k5))
  have k25 := k3.trans (k4.trans k5)
  generalize upd (upd H3 L1 (.lst [])) M (.dK (mergeK [] [])) = H5 at k5 k15 k25
  -- for declaration in program[:-1]
  refine ⟨_, rfl, 1, rfl, _, rfl, t, _, rfl, sqT_kps k15 ht, (by intro z; exact absurd z.2 (by show ¬ (0 : Nat) = 1; decide)), fun S2 hS2 => ?_⟩
  have k6 : Kps H5 (upd H5 S2 (.tup (cutV [.ref t1] none (some (-1))))) := Kps.new hS2
  have hS6 : SqT K (upd H5 S2 (.tup (cutV [.ref t1] none (some (-1))))) S2 [] := .inl (.inl upd_same)
  generalize upd H5 S2 (.tup (cutV [.ref t1] none (some (-1)))) = H6 at k6 hS6
  refine ⟨S2, rfl, ⟨[], hS6⟩, for_tup (K := K) (a := S2) (xs := []) (g := gName 5) (tb := fun _ _ _ => False) (fun i σ H' => σ = [some (.ref t), some (.int n), some (.ref r), some (.ref d), some (.ref M), none, none, none, none, none, none, none, none, none] ∧ H' = H6)
    ⟨rfl, rfl⟩ ?_ ?_ ?_⟩
  · rintro i σ H' _ ⟨_, rfl⟩
    exact hS6
  · rintro i y σ H' hi
    cases hi
  rintro σ Hx ⟨rfl, hx⟩
  obtain rfl : H6 = Hx := hx.symm
  have k26 := k25.trans k6
  have k16 := k15.trans k6
  have h6 := k26 _ _ h2
  have d6 := k26 _ _ hd2
  have ndr : d ≠ r := (ne_of_none h1 hd).symm
  have run6 : LAt K (maxI n) H6 r [d] 10 st0 := by
    refine ⟨⟨.ref L, h6⟩, rfl, fun k e he => ?_⟩
    cases k with
    | zero =>
      cases he
      exact ⟨ndr, [], d6, .nil⟩
    | succ k => cases he
  have pre : LPre K pool D (maxI n) H6 r [d] 10 st0 d 0 := ⟨run6, good0, rfl⟩
  have hk : ∀ {H'}, Fwd r H6 H' → Kps H H' := fun {H'} f p o h => f p o (k16 p o h) (ne_of_none h hr0)
  refine ⟨_, rfl, _, rfl, 1, rfl, t, _, _, _, rfl, rfl, sqT_kps k16 ht, atI_last [] _, t1, _, _, _, rfl, rfl, sqT_kps k16 ht1, at_of (j := 1) rfl rfl, _, rfl, ?_⟩
  refine ⟨r, d, pv', rfl, .inl ⟨ph, [d], 0, st0, pre, dp_kps k16 hpv, hwf, trivial, ?_⟩⟩
  have q : match resO (EV D (maxI n) 10 D ph 0 st0) with
    | .inr i => ∀ H' T, Kps H H' → H' T = some (.tup [.str "", .int i, .int (begO (EV D (maxI n) 10 D ph 0 st0))]) → Q (.ref T) H'
    | .inl g => ∀ H' T x b, Kps H H' → H' T = some (.tup [.str (fName g), x, .int b]) → Q (.ref T) H' := q
  cases e : EV D (maxI n) 10 D ph 0 st0 with
  | bad g s1 =>
    rw [e] at q
    have q : ∀ H' T x b, Kps H H' → H' T = some (.tup [.str (fName g), x, .int b]) → Q (.ref T) H' := q
    intro H' y f dead by'
    obtain ⟨hg, sp, mo, bg, un, h'⟩ := dead
    have fin : ∀ {H2 : Hp}, H2 = H' → True := fun _ => trivial
    cases by' with
    | non =>
      refine ⟨_, rfl, _, _, _, _, _, rfl, .ty _, .base .non, kit_ty (r := false) (by decide +kernel), _, rfl, iteTr rfl ?_⟩
      refine ⟨_, rfl, r, _, sp, _, _, _, _, rfl, h', fun _ => ?_, fun z => absurd z hg⟩
      refine ⟨_, rfl, r, _, rfl, gWord h', _, rfl, _, rfl, r, _, rfl, gBegun h', (by show 3 ≤ sizeLine; decide), fun T hT => ?_⟩
      exact q _ T _ _ ((hk f).trans (Kps.new hT)) upd_same
    | int i =>
      refine ⟨_, rfl, _, _, _, _, _, rfl, .ty _, .base (.int i), kit_ty (r := true) (by decide +kernel), _, rfl, iteFr rfl ?_⟩
      refine ⟨_, rfl, r, _, rfl, gWord h', _, rfl, _, rfl, r, _, rfl, gBegun h', (by show 3 ≤ sizeLine; decide), fun T hT => ?_⟩
      exact q _ T _ _ ((hk f).trans (Kps.new hT)) upd_same
  | ok x s1 =>
    rw [e] at q
    intro H' m' y f run' hm' rep
    obtain ⟨⟨sp, h'⟩, _⟩ := id run'
    obtain ⟨ty, tyy, ky⟩ := rep_intL rep
    refine ⟨_, rfl, _, _, _, _, _, rfl, .ty _, tyy, ky, _, rfl, ?_⟩
    have stuck : (∀ H' T x b, Kps H H' → H' T = some (.tup [.str (fName .stuck), x, .int b]) → Q (.ref T) H') → ∀ T, upd H' r (.dK (wF sp "stuck" (maxI n) s1.begun (10 - ((10 : Nat) : Int)))) T = none →
        Q (.ref T) (upd (upd H' r (.dK (wF sp "stuck" (maxI n) s1.begun (10 - ((10 : Nat) : Int))))) T (.tup [.str "stuck", y, .int s1.begun])) := fun q T hT =>
      q _ T _ _ ((hk (f.trans Fwd.own)).trans (Kps.new hT)) upd_same
    cases x with
    | num i =>
      cases rep
      refine iteFr rfl ?_
      refine ⟨_, rfl, r, _, rfl, gWord h', _, rfl, _, rfl, r, _, rfl, gBegun h', (by show 3 ≤ sizeLine; decide), fun T hT => ?_⟩
      exact q _ T ((hk f).trans (Kps.new hT)) upd_same
    | blk w' vs =>
      refine iteTr rfl ⟨_, rfl, r, _, sp, "", _, _, _, rfl, h', fun z => absurd rfl z, fun _ => ?_⟩
      refine ⟨_, rfl, r, _, rfl, gWord upd_same, _, rfl, _, rfl, r, _, rfl, gBegun upd_same, (by show 3 ≤ sizeLine; decide), fun T hT => ?_⟩
      exact stuck q T hT
    | fn x' b' k' =>
      refine iteTr rfl ⟨_, rfl, r, _, sp, "", _, _, _, rfl, h', fun z => absurd rfl z, fun _ => ?_⟩
      refine ⟨_, rfl, r, _, rfl, gWord upd_same, _, rfl, _, rfl, r, _, rfl, gBegun upd_same, (by show 3 ≤ sizeLine; decide), fun T hT => ?_⟩
      exact stuck q T hT
end
end FW

set_option Elab.async false
set_option linter.all false
set_option maxRecDepth 100000
set_option maxHeartbeats 8000000
/-! LG: what run tells, caught. -/
namespace FW
open PySem PySem.Spec PyProof.Rows L2

section
variable {X : Cx} {CX : CXT} {n m : Nat} {f : Addr} {fd : FuncData} {ps : List Str} {sp : Sp} {E : L2.St → XK} {x : Str} {p pos : Pos} {e : Expr} {es : List Expr} {t : TA}
theorem pe_cNS (c : CalN X.prog X.w X.K X.mg X.base CX m x ps sp) (hr : RoomN n X.A) (hg : Gl X x) (hx : ∀ σ, PassesAt CX X σ (E σ)) (ha : PA X (e :: es) t) (hmn : m ≤ n := by omega) (hdb : (x == ("__debug__" : Str)) = false := by decide)
    (he : starEach (e :: es) X.env = (false, eval e X.env) :: starEach es X.env := by rfl) (hpl : (backTo pos (starEach es X.env)).any (·.1) = false := by rfl) :
    PE X (.Call (.Name x p) (e :: es) [] pos) (tCallSD sp [] E t) := by
  obtain ⟨f, fd, gm, kp, b, F⟩ := c.ex
  refine ⟨fun pins s σ H Q I h => wpAny_Call_Name_kw (ld_glob I hg gm ?_ hdb)⟩
  refine PySem.W.callWith_K (h₀ := X.base) I.ok.mod.kin kp (thn (ha.run pos pins s σ H _ I h) fun us s1 ⟨vs, H1, I1, r, q⟩ => ⟨I1.kIn, ?_⟩) he hpl
  have hr' := hr.mono hmn
  have r2 : Vals (vs ++ []) (us ++ []) := r.append .nil
  have l : (us ++ []).length = ps.length := by
    rw [← r2.length]
    exact F.len _ _ _ _ q
  refine wpAny_call (codeAny_mono (F.run X.A X.stack s1 H1 ⟨us, []⟩ (us ++ []) (vs ++ []) Q (E σ) hr' I1.env0 (b s1 us I1.kIn l) r2 q) fun r s' hq => ?_)
  cases r with
  | error e => exact hx σ pins H1 s1 e s' I1 hq
  | ok fl =>
    cases fl with
    | ret u => exact I1.after hq
    | next => exact False.elim hq
    | brk => exact False.elim hq
    | cont => exact False.elim hq
end

structure ET (K : PySem.W.Frag) (mg : Str → Option Value) (A : Ad) (CE : Addr) : Prop where
  xF : mg "FaceError" = some (.ref CE)
  exm : ∀ g, PySem.W.exmOne K (.ref (A.exc g)) (.ref CE) = some true
  exc : ∀ g, ExcC K (A.exc g)
  kit : ∀ g g', PySem.W.kitOne K (.ref (A.exc g)) (.ref (A.exc g')) = some (decide (g = g'))
  gS : mg "Stuck" = some (.ref A.CS)
  gG : mg "TooGreat" = some (.ref A.CG)
  gL : mg "TooLong" = some (.ref A.CL)
  gD : mg "TooDeep" = some (.ref A.CD)

section
variable {P : Program} {w : World} {K : PySem.W.Frag} {mg : Str → Option Value} {base : Heap} {A : Ad} {CE : Addr} {f : Addr} {fd : FuncData} {pool : List Str} {D : Nat}

/-- isinstance(e, c) of one of the four -/
def rIsF (K : PySem.W.Frag) (A : Ad) (cls : Value) (d : Option Addr) (a : Addr) : List V → Hp → VK → Prop := fun xs H Q => ∃ g, cls = .ref (A.exc g) ∧ d = none ∧ rIsE K (A.exc g) a xs H Q
theorem call_isF {X : Cx} {a : Addr} {oe : Obj} {pn : List (Addr × Obj)} {cls : Value} {d : Option Addr} (T : ET X.K mg A CE) (hz : Zc cls d oe) (hf : ∃ vs, oe.data = .fields vs) :
    CallR (X.suite a ((a, oe) :: pn)) (.builtin "isinstance") (rIsF X.K A cls d a) := by
  intro pins s σ H xs us Q I r h
  obtain ⟨g, rfl, rfl, h⟩ := h
  exact call_isE (T.exc g) hz hf pins s σ H xs us Q I r h
theorem hotS {X : Cx} {a : Addr} {oe : Obj} {pn : List (Addr × Obj)} {cls : Value} {d : Option Addr} (hz : L2N.Zn cls d oe) (hf : ∃ vs, oe.data = .fields vs) : L2H.HotC (X.suite a ((a, oe) :: pn)) := by
  obtain ⟨vs, hv⟩ := hf
  exact ⟨(a, oe), ⟨rfl, vs, hv, hz.2.2 vs hv⟩, List.mem_cons_self⟩

def rInt1 : List V → Hp → VK → Prop := fun xs H Q => (∃ i, xs = [.int i] ∧ Q (.int i) H) ∨ ∃ k, xs = [.bl k] ∧ Q (.int (if k = true then 1 else 0)) H
/-- what the except suite does -/
def tToldS (K : PySem.W.Frag) (A : Ad) (a : Addr) (cls : Value) (d : Option Addr) : TS :=
  tSeq (tAsg (tLst (tCons (tCB (rIsF K A cls d a) (tCons (tVar 4) (tCons (tC (.ref A.CS)) tNil))) (tCons (tCB (rIsF K A cls d a) (tCons (tVar 4) (tCons (tC (.ref A.CG)) tNil)))
    (tCons (tCB (rIsF K A cls d a) (tCons (tVar 4) (tCons (tC (.ref A.CL)) tNil))) (tCons (tCB (rIsF K A cls d a) (tCons (tVar 4) (tCons (tC (.ref A.CD)) tNil))) tNil))))) (gName 5))
  (tSeq (tAsg (tC (.str "other")) (gName 2))
  (tIfS (tTest (tOp rEq (tCB (rSum K) (tCons (tLc (iList K (tVar 5)) (gName 6) tYes (tCB rInt1 (tCons (tVar 6) tNil)) [6]) tNil)) (tC (.int 1))))
    (tAsg (tOp (rIxL K) (tLst (tCons (tC (.str "stuck")) (tCons (tC (.str "great")) (tCons (tC (.str "long")) (tCons (tC (.str "deep")) tNil))))) (tBM K "list" (rIndex K) (tVar 5) (tCons (tC (.bl true)) tNil))) (gName 2))
    tNext))
def bsOf (g : Fault) : List Bool := [decide (g = .stuck), decide (g = .great), decide (g = .long), decide (g = .deep)]
def b2i (b : Bool) : Int := if b = true then 1 else 0
def gIx : Fault → Nat
  | .stuck => 0
  | .great => 1
  | .long => 2
  | .deep => 3
theorem told_suite {H : Hp} {g : Fault} {a : Addr} {v w2 : V} {D : Ends} (R : ET K mg A CE)
    (q : ∀ H2 L o, Kps H H2 → D.nx [some v, some w2, some (.str (fName g)), some .non, some (.ref a), some (.ref L), o] H2) :
    tToldS K A a (.ref (A.exc g)) none D [some v, some w2, some (.str ""), some .non, some (.ref a), none, none] H := by
  refine ⟨_, rfl, g, rfl, rfl, .ref A.CS, .ref A.CS, _, rfl, fun u h => h, R.kit g .stuck, ?_⟩
  refine ⟨_, rfl, g, rfl, rfl, .ref A.CG, .ref A.CG, _, rfl, fun u h => h, R.kit g .great, ?_⟩
  refine ⟨_, rfl, g, rfl, rfl, .ref A.CL, .ref A.CL, _, rfl, fun u h => h, R.kit g .long, ?_⟩
  refine ⟨_, rfl, g, rfl, rfl, .ref A.CD, .ref A.CD, _, rfl, fun u h => h, R.kit g .deep, ?_⟩
  refine ⟨(by show 4 ≤ sizeLine; decide), fun L hL => ?_⟩
  have k1 : Kps H (upd H L (.lst ((bsOf g).map V.bl))) := Kps.new hL
  have h1 : (upd H L (.lst ((bsOf g).map V.bl))) L = some (.lst ((bsOf g).map V.bl)) := upd_same
  show tSeq _ _ _ _ (upd H L (.lst ((bsOf g).map V.bl)))
  generalize upd H L (.lst ((bsOf g).map V.bl)) = H1 at k1 h1
  refine ⟨_, rfl, L, rfl, ⟨_, .inl (.inl h1)⟩, fun M hM => ?_⟩
  have nLM : L ≠ M := ne_of_none h1 hM
  refine lc_list (K := K) (a := L) (xs := (bsOf g).map V.bl) (fun i H' => H' = upd H1 M (.lst (((bsOf g).take i).map fun b => V.int (b2i b)))) rfl ?_ ?_ ?_
  · rintro i H' _ rfl
    exact .inl (.inl ((upd_ne nLM).trans h1))
  · rintro i y _ hi rfl
    rw [List.getElem?_map] at hi
    obtain ⟨b, hb, rfl⟩ := Option.map_eq_some_iff.mp hi
    have hil := (List.getElem?_eq_some_iff.mp hb).1
    have hl4 : (bsOf g).length = 4 := rfl
    refine ⟨rfl, ?_⟩
    refine ⟨_, rfl, .inr ⟨b, rfl, ?_⟩⟩
    refine ⟨_, upd_same, ?_, ?_⟩
    · rw [List.length_map, List.length_take]
      exact Nat.lt_of_le_of_lt (Nat.min_le_right _ _) (by rw [hl4]; decide)
    · rw [upd_upd, List.take_add_one, hb]
      simp only [Option.toList_some, List.map_append, List.map_cons, List.map_nil]
      rfl
  rintro _ rfl
  rw [List.take_of_length_le (by rw [List.length_map]; exact Nat.le_refl _)]
  have k2 : Kps H1 (upd H1 M (.lst ((bsOf g).map fun b => V.int (b2i b)))) := Kps.new hM
  have k12 := k1.trans k2
  have h2 := k2 _ _ h1
  have hM2 : (upd H1 M (.lst ((bsOf g).map fun b => V.int (b2i b)))) M = some (.lst ((bsOf g).map fun b => V.int (b2i b))) := upd_same
  generalize upd H1 M (.lst ((bsOf g).map fun b => V.int (b2i b))) = H2 at k2 k12 h2 hM2
  refine ⟨M, (bsOf g).map b2i, rfl, .inl (.inl (by rw [List.map_map]; exact hM2)), ?_⟩
  refine ⟨rfl, _, rfl, iteTr (by cases g <;> decide +kernel) ?_⟩
  refine ⟨(by show 4 ≤ sizeLine; decide), fun N hN => ?_⟩
  have k3 : Kps H2 (upd H2 N (.lst [.str "stuck", .str "great", .str "long", .str "deep"])) := Kps.new hN
  have h3 := k3 _ _ h2
  have hN3 : (upd H2 N (.lst [.str "stuck", .str "great", .str "long", .str "deep"])) N = some (.lst [.str "stuck", .str "great", .str "long", .str "deep"]) := upd_same
  refine ⟨_, rfl, ?_, L, (bsOf g).map V.bl, .bl true, gIx g, .bl true, rfl, rfl, .inl (.inl h3), rfl, by cases g <;> rfl, by cases g <;> rfl, rfl, ?_, ?_⟩
  · exact .inl ⟨rfl, _, .inl (.inl h3)⟩
  · intro m z' hm hz
    have hb : ∀ m, m < gIx g → (bsOf g)[m]? = some false := by cases g <;> decide
    rw [List.getElem?_map, hb m hm] at hz
    cases hz
    rfl
  · refine ⟨N, _, _, .str (fName g), rfl, rfl, .inl (.inl hN3), at_of (j := gIx g) rfl (by cases g <;> rfl), ?_⟩
    exact q _ L _ (k12.trans k3)
abbrev s__law_told : Stmt := top 33
def N__law_told : List Str := ["_law_program", "_law_most", "_law_word", "_law_made", "e", "_law_some", "_law_one"]
theorem sc__law_told : FnScope N__law_told ["_law_program", "_law_most"] (defScope s__law_told) := ⟨rfl, rfl, rfl, by decide +kernel, rfl, by decide +kernel, by decide +kernel⟩
def spTold (K : PySem.W.Frag) (pool : List Str) (D : Nat) : Sp := fun vs H Q _ => ∃ (v : V) (ph : PyData) (n : Int), vs = [v, .int n] ∧ Dq K H v (mainP ph) ∧ Wf pool D ph ∧
  match resO (ranO D n ph) with
  | .inr i => ∀ H' T, Kps H H' → H' T = some (.tup [.str "", .int i]) → Q (.ref T) H'
  | .inl g => ∀ H' T, Kps H H' → H' T = some (.tup [.str (fName g), .non]) → Q (.ref T) H'
theorem ok__law_told {lv : Nat} (F : Fun K "_law_told" "_law_told" s__law_told f fd) (T : LT mg) (R : ET K mg A CE)
    (c_run : CalN P w K mg base (L2N.CX P w) lv "run" ["program", "most"] (spRun K A pool D)) :
    FnN P w K mg base CX0 (lv + 1) f fd ["_law_program", "_law_most"] (spTold K pool D) := by
  refine okN0 F sc__law_told (fun vs H Q E h => ?_) (fun cdv A' outer s H vs Q E hr h => ?_)
  · obtain ⟨_, _, _, rfl, _⟩ := h
    rfl
  obtain ⟨v, ph, n, rfl, hdp, hwf, q⟩ := h
  have hot : ∀ (a : Addr) (oe : Obj) (cls : Value) (d : Option Addr) (pn : List (Addr × Obj)), L2N.Zn cls d oe → (∃ vs, oe.data = .fields vs) →
    L2H.HotC (Cx.suite (cxOf CX0 P w K mg base N__law_told "_law_told" (defScope s__law_told) f cdv A' outer s H E).nox a ((a, oe) :: pn)) := fun a oe cls d pn hz hf => hotS hz hf
  have isF : ∀ (a : Addr) (oe : Obj) (cls : Value) (d : Option Addr) (pn : List (Addr × Obj)), L2N.Zn cls d oe → (∃ vs, oe.data = .fields vs) →
    CallR (Cx.suite (cxOf CX0 P w K mg base N__law_told "_law_told" (defScope s__law_told) f cdv A' outer s H E).nox a ((a, oe) :: pn)) (.builtin "isinstance") (rIsF K A cls d a) := fun a oe cls d pn hz hf => call_isF R hz.zc hf
  refine ⟨_, (pss_cons (ps_set (i := 2) sc__law_told.nd rfl (Or.inl rfl) pe_str)
  (pss_cons (ps_set (i := 3) sc__law_told.nd rfl (Or.inl rfl) pe_non)
  (pss_cons (L2N.ps_try_as (i := 4) (ts := tToldS K A) (Wout := fun _ _ _ _ => False) rfl rfl sc__law_told.nd rfl rfl ⟨by rfl, by decide, .inl R.xF⟩ (fun u s' ⟨_, _, _, _, _, _, _, _, _, _, _, _, _, _, _, _, w⟩ => w.elim)
    (fun W pn xe tk po => pss_one (ps_set (i := 3) sc__law_told.nd rfl (Or.inl rfl) (pe_cNS c_run hr (by rfl) (L2N.passAt tk) (pa_cons (pv 0) (pa_cons (pv 1) pa_nil)))))
    (by
      intro a oe cls d pn hz hf
      exact pss_cons (ps_set (i := 5) sc__law_told.nd rfl (Or.inl rfl) (pe_lst (pa_cons (pe_callB (isF a oe cls d pn hz hf) (by rfl) T.z_isinstance (by decide +kernel) (pa_cons (pv 4) (pa_cons (pe_gR (by rfl) R.gS) pa_nil)))
            (pa_cons (pe_callB (isF a oe cls d pn hz hf) (by rfl) T.z_isinstance (by decide +kernel) (pa_cons (pv 4) (pa_cons (pe_gR (by rfl) R.gG) pa_nil)))
            (pa_cons (pe_callB (isF a oe cls d pn hz hf) (by rfl) T.z_isinstance (by decide +kernel) (pa_cons (pv 4) (pa_cons (pe_gR (by rfl) R.gL) pa_nil)))
            (pa_cons (pe_callB (isF a oe cls d pn hz hf) (by rfl) T.z_isinstance (by decide +kernel) (pa_cons (pv 4) (pa_cons (pe_gR (by rfl) R.gD) pa_nil))) pa_nil))))))
          (pss_cons (ps_set (i := 2) sc__law_told.nd rfl (Or.inl rfl) pe_str)
          (pss_one (ps_if (pt_cmpR op_eq (pe_callB (cr_sumH (hot a oe cls d pn hz hf)) (by rfl) T.z_sum (by decide +kernel) (pa_cons (pe_lcH (own := [("_law_one", 6)]) (hot a oe cls d pn hz hf) sc__law_told.nd (pv 5) (blkOk_by (own := [("_law_one", 6)]) (N := N__law_told) (sc := defScope s__law_told) (by decide +kernel)) (fun _ _ _ _ _ => (pg_name (i := 6) sc__law_told.nd rfl (.inl rfl))) (fun _ _ _ _ _ => (pe_callTy call_int1 (by rfl) T.z_int (by decide +kernel) (pa_cons (pv 6) pa_nil)))) pa_nil)) pe_int (nomark _))
            (pss_one (ps_set (i := 2) sc__law_told.nd rfl (Or.inl rfl) (pe_ix ix_list (pe_lst (pa_cons pe_str (pa_cons pe_str (pa_cons pe_str (pa_cons pe_str pa_nil))))) (pe_bm PySem.F.plainAttrs_list PySem.F.slot_list_index PySem.F.type_list_index mt_index (pv 5) (pa_cons pe_bl pa_nil)) (fun _ _ => rfl))))
            pss_nil)))))
  (pss_one (ps_ret (pe_tup (pa_cons (pv 2) (pa_cons (pv 3) pa_nil)))))))), ?_⟩
  refine ⟨_, rfl, _, rfl, v, ph, n, rfl, hdp, hwf, fun H' k => ?_⟩
  cases e : ranO D n ph with
  | bad g s1 =>
    rw [e] at q
    refine ⟨true, R.exm g, fun _ a ha => told_suite R fun H2 L o k2 => ?_, fun z => by cases z⟩
    refine ⟨_, rfl, _, rfl, (by show 2 ≤ sizeLine; decide), fun T hT => ?_⟩
    exact q _ T ((k.trans k2).trans (Kps.new hT)) upd_same
  | ok x s1 =>
    rw [e] at q
    cases x with
    | num i =>
      refine ⟨_, rfl, _, rfl, (by show 2 ≤ sizeLine; decide), fun T hT => ?_⟩
      exact q _ T (k.trans (Kps.new hT)) upd_same
    | blk w' vs =>
      refine ⟨true, R.exm .stuck, fun _ a ha => told_suite (g := .stuck) R fun H2 L o k2 => ?_, fun z => by cases z⟩
      refine ⟨_, rfl, _, rfl, (by show 2 ≤ sizeLine; decide), fun T hT => ?_⟩
      exact q _ T ((k.trans k2).trans (Kps.new hT)) upd_same
    | fn x' b' k' =>
      refine ⟨true, R.exm .stuck, fun _ a ha => told_suite (g := .stuck) R fun H2 L o k2 => ?_, fun z => by cases z⟩
      refine ⟨_, rfl, _, rfl, (by show 2 ≤ sizeLine; decide), fun T hT => ?_⟩
      exact q _ T ((k.trans k2).trans (Kps.new hT)) upd_same
end
end FW

set_option Elab.async false
set_option linter.all false
set_option maxRecDepth 100000
set_option maxHeartbeats 8000000
/-! LH: run and the law's walk answer alike. -/
namespace FW
open PySem PySem.Spec PyProof.Rows L2

section
variable {P : Program} {w : World} {K : PySem.W.Frag} {mg : Str → Option Value} {base : Heap} {A : Ad} {CE : Addr} {f : Addr} {fd : FuncData} {pool : List Str} {D : Nat}

abbrev s__law_right : Stmt := top 34
def N__law_right : List Str := ["_law_program", "_law_most", "_law_word", "_law_due", "_law_begun", "_law_told_here", "_law_made"]
theorem sc__law_right : FnScope N__law_right ["_law_program", "_law_most"] (defScope s__law_right) := ⟨rfl, rfl, rfl, by decide +kernel, rfl, by decide +kernel, by decide +kernel⟩
def spRight (K : PySem.W.Frag) (pool : List Str) (D : Nat) : Sp := fun vs H Q _ => ∃ (v : V) (ph : PyData) (n : Int), vs = [v, .int n] ∧ Dq K H v (mainP ph) ∧ Wf pool D ph ∧ ∀ H', Kps H H' → Q (.bl true) H'
theorem ok__law_right {lv : Nat} (F : Fun K "_law_right" "_law_right" s__law_right f fd) (T : LT mg)
    (c__law_ran : CalN P w K mg base CX0 lv "_law_ran" ["_law_program", "_law_most"] (spRan K pool D))
    (c__law_told : CalN P w K mg base CX0 lv "_law_told" ["_law_program", "_law_most"] (spTold K pool D)) :
    FnN P w K mg base CX0 (lv + 1) f fd ["_law_program", "_law_most"] (spRight K pool D) := by
  refine okN0 F sc__law_right (fun vs H Q E h => ?_) (fun cdv A' outer s H vs Q E hr h => ?_)
  · obtain ⟨_, _, _, rfl, _⟩ := h
    rfl
  obtain ⟨v, ph, n, rfl, hdp, hwf, q⟩ := h
  refine ⟨_, (pss_cons (ps_asg (pe_cN c__law_ran hr (by rfl) pass0 (pa_cons (pv 0) (pa_cons (pv 1) pa_nil))) (pg_tup rfl (pgs_cons (pg_name (i := 2) sc__law_right.nd rfl (.inl rfl)) (pgs_cons (pg_name (i := 3) sc__law_right.nd rfl (.inl rfl)) (pgs_cons (pg_name (i := 4) sc__law_right.nd rfl (.inl rfl)) pgs_nil)))))
  (pss_cons (ps_asg (pe_cN c__law_told hr (by rfl) pass0 (pa_cons (pv 0) (pa_cons (pv 1) pa_nil))) (pg_tup rfl (pgs_cons (pg_name (i := 5) sc__law_right.nd rfl (.inl rfl)) (pgs_cons (pg_name (i := 6) sc__law_right.nd rfl (.inl rfl)) pgs_nil))))
  (pss_cons (ps_if (pt_cmpR op_ne (pv 5) (pv 2) (nomark _))
    (pss_one (ps_ret pe_bl))
    pss_nil)
  (pss_cons (ps_if (pt_cmpR op_ne (pv 2) pe_str (nomark _))
    (pss_one (ps_ret (pe_cmpR op_isN (pv 6) pe_non (nomark _))))
    pss_nil)
  (pss_one (ps_ret (pe_and (pe_callB call_isi (by rfl) T.z_isinstance (by decide +kernel) (pa_cons (pv 6) (pa_cons (pe_tyN (n := "int") (by rfl) T.z_int (by decide +kernel)) pa_nil))) (pe_and (pe_not (pe_callB call_isi (by rfl) T.z_isinstance (by decide +kernel) (pa_cons (pv 6) (pa_cons (pe_tyN (n := "bool") (by rfl) T.z_bool (by decide +kernel)) pa_nil)))) (pe_one (pe_cmpR op_eq (pv 6) (pv 3) (nomark _))))))))))), ?_⟩
  refine ⟨_, rfl, _, rfl, v, ph, n, rfl, hdp, hwf, ?_⟩
  cases e : resO (ranO D n ph) with
  | inr i =>
    intro H1 T1 k1 h1
    refine ⟨T1, _, rfl, .inl (.inl h1), rfl, _, _, rfl, _, _, rfl, _, _, rfl, rfl, ?_⟩
    refine ⟨_, rfl, _, rfl, v, ph, n, rfl, dp_kps k1 hdp, hwf, ?_⟩
    rw [e]
    intro H2 T2 k2 h2
    refine ⟨T2, _, rfl, .inl (.inl h2), rfl, _, _, rfl, _, _, rfl, rfl, ?_⟩
    refine ⟨_, rfl, _, rfl, rfl, _, rfl, iteFr (by decide +kernel) ?_⟩
    refine ⟨_, rfl, rfl, _, rfl, iteFr (by decide +kernel) ?_⟩
    refine ⟨_, rfl, _, _, _, _, _, rfl, .ty _, .base (.int i), kit_ty (r := true) (by decide +kernel), ?_⟩
    refine ⟨_, rfl, iteTr rfl ?_⟩
    refine ⟨_, rfl, _, _, _, _, _, rfl, .ty _, .base (.int i), kit_ty (r := false) (by decide +kernel), _, rfl, ?_⟩
    refine ⟨_, rfl, iteTr rfl ?_⟩
    refine ⟨_, rfl, _, rfl, rfl, ?_⟩
    rw [decide_eq_true rfl]
    exact q _ (k1.trans k2)
  | inl g =>
    intro H1 T1 x b k1 h1
    refine ⟨T1, _, rfl, .inl (.inl h1), rfl, _, _, rfl, _, _, rfl, _, _, rfl, rfl, ?_⟩
    refine ⟨_, rfl, _, rfl, v, ph, n, rfl, dp_kps k1 hdp, hwf, ?_⟩
    rw [e]
    intro H2 T2 k2 h2
    refine ⟨T2, _, rfl, .inl (.inl h2), rfl, _, _, rfl, _, _, rfl, rfl, ?_⟩
    refine ⟨_, rfl, _, rfl, rfl, _, rfl, iteFr (by cases g <;> decide +kernel) ?_⟩
    refine ⟨_, rfl, rfl, _, rfl, iteTr (by cases g <;> decide +kernel) ?_⟩
    refine ⟨_, rfl, ?_⟩
    refine ⟨rfl, ?_⟩
    rw [decide_eq_true rfl]
    exact q _ (k1.trans k2)
end
end FW

set_option Elab.async false
set_option linter.all false
set_option maxRecDepth 100000
set_option maxHeartbeats 8000000
/-! GA: the law's draws: digits, the state, names. -/
namespace FW
open PySem PySem.Spec PyProof.Rows L2

/-- the state's numbers -/
def StOk (ns : List Int) : Prop := ∃ ini l, ns = ini ++ [l] ∧ 0 ≤ l ∧ l < 2 ^ 61 ∧ ini.length ≤ 64
def StAt (H : Hp) (S : Addr) : Prop := ∃ ns : List Int, H S = some (.lst (ns.map V.int)) ∧ StOk ns
theorem StAt.ns {H : Hp} {S : Addr} (h : StAt H S) : NoSeq H S := by
  obtain ⟨ns, h, _⟩ := h
  exact noSeqL h
section
variable {P : Program} {w : World} {K : PySem.W.Frag} {mg : Str → Option Value} {base : Heap} {f : Addr} {fd : FuncData}

/-! ### _law_next -/
abbrev s__law_next : Stmt := top 21
def N__law_next : List Str := ["_law_state", "_law_many", "_law_digit"]
theorem sc__law_next : FnScope N__law_next ["_law_state", "_law_many"] (defScope s__law_next) := ⟨rfl, rfl, rfl, by decide +kernel, rfl, by decide +kernel, by decide +kernel⟩
def spNext : Sp := fun vs H Q _ => ∃ (S : Addr) (many : Int), vs = [.ref S, .int many] ∧ StAt H S ∧ 0 < many ∧ many < 1000000 ∧
  ∀ (d : Int) (H' : Hp), 0 ≤ d → d < many → Fwd S H H' → StAt H' S → Q (.int d) H'
theorem ok__law_next (F : Fun K "_law_next" "_law_next" s__law_next f fd) (T : LT mg) : FnN P w K mg base CX0 1 f fd ["_law_state", "_law_many"] spNext := by
  refine okN0 F sc__law_next (fun vs H Q E h => ?_) (fun cdv A' outer s H vs Q E hr h => ?_)
  · obtain ⟨_, _, rfl, _⟩ := h
    rfl
  obtain ⟨S, many, rfl, ⟨ns, hS, ini, l, rfl, l0, l1, hi⟩, m0, m1, q⟩ := h
  refine ⟨_, (pss_cons (ps_if (pt_cmpR op_gt (pe_callB call_len_seq (by rfl) T.z_len PySem.boot_len (pa_cons (pv 0) pa_nil)) pe_int (nomark _))
    (pss_cons (ps_set (i := 2) sc__law_next.nd rfl (Or.inl rfl) (pe_op op_mod (pe_ix ix_list (pv 0) pe_int (fun _ _ => rfl)) (pv 1)))
    (pss_cons (ps_asg (pe_op op_fdiv (pe_ix ix_list (pv 0) pe_int (fun _ _ => rfl)) (pv 1)) (pg_sub (pv 0) pe_int set_list))
    (pss_cons (ps_if (pt_cmpR op_in_seq (pe_ix ix_list (pv 0) pe_int (fun _ _ => rfl)) (pe_tup (pa_cons pe_int (pa_cons (pe_un un_neg pe_int) pa_nil))) (by rfl))
      (pss_one (ps_expr (pe_bm PySem.F.plainAttrs_list PySem.F.slot_list_pop PySem.F.type_list_pop mt_popAt (pv 0) (pa_cons pe_int pa_nil))))
      pss_nil)
    (pss_one (ps_ret (pv 2))))))
    pss_nil)
  (pss_cons (ps_asg (pe_op op_mod (pe_op op_add (pe_op op_mulW (pe_ix ix_list (pv 0) pe_int (fun _ _ => rfl)) pe_int) pe_int) (pe_op op_sub (pe_op op_pow pe_int pe_int) pe_int)) (pg_sub (pv 0) pe_int set_list))
  (pss_one (ps_ret (pe_op op_mod (pe_op op_fdiv (pe_ix ix_list (pv 0) pe_int (fun _ _ => rfl)) pe_int) (pv 1)))))), ?_⟩
  refine ⟨_, rfl, S, _, rfl, .inl (.inl (.inl hS)), _, _, rfl, rfl, _, rfl, ?_⟩
  cases ini with
  | nil =>
    refine iteFr rfl ?_
    refine ⟨_, rfl, S, _, _, _, rfl, rfl, .inl (.inl hS), at_of (j := 0) rfl rfl, ?_⟩
    have wd : CMulW l 1181783497276652981 := wide_mul (a := 62) (b := 62) (by omega) (by decide) (by decide) (by decide) (by decide)
    refine ⟨_, _, rfl, rfl, wd, _, _, rfl, rfl, _, _, rfl, rfl, ⟨by decide, by decide, by decide⟩, _, _, rfl, rfl, _, _, rfl, rfl, (by show (0 : Int) < 2 ^ Int.toNat 61 - 1; decide +kernel), ?_⟩
    refine ⟨_, rfl, S, _, _, 0, rfl, rfl, hS, rfl, ?_⟩
    have f1 : Fwd S H (upd H S (.lst (([] ++ [l] : List Int).map V.int |>.set 0 (.int ((l * 1181783497276652981 + 12345678910987) % (2 ^ (61 : Int).toNat - 1)))))) := Fwd.own
    refine ⟨_, rfl, S, _, _, _, rfl, rfl, .inl (.inl upd_same), at_of (j := 0) rfl rfl, ?_⟩
    refine ⟨_, _, rfl, rfl, ⟨by decide, by decide⟩, _, rfl, _, _, rfl, rfl, m0, ?_⟩
    have e1 : (2 : Int) ^ (61 : Int).toNat - 1 = 2305843009213693951 := by decide +kernel
    refine q _ _ (Int.emod_nonneg _ (by omega)) (Int.emod_lt_of_pos _ m0) f1 ⟨[(l * 1181783497276652981 + 12345678910987) % (2 ^ (61 : Int).toNat - 1)], upd_same, [], _, rfl, ?_, ?_, by decide⟩
    · rw [e1]
      exact Int.emod_nonneg _ (by decide)
    · rw [e1]
      have := Int.emod_lt_of_pos (l * 1181783497276652981 + 12345678910987) (show (0 : Int) < 2305843009213693951 by decide)
      omega
  | cons c ini =>
    have ix0 : ixN (List.map V.int (c :: ini ++ [l])).length 0 = some 0 := by
      rw [show (List.map V.int (c :: ini ++ [l])).length = (ini ++ [l]).length + 1 from by simp]
      unfold ixN
      rw [if_pos (by decide), if_pos (by omega)]
      rfl
    refine iteTr (decide_eq_true (by simp only [List.length_map, List.length_append, List.length_cons, List.length_nil]; omega)) ?_
    refine ⟨_, rfl, S, _, _, _, rfl, rfl, .inl (.inl hS), at_of (j := 0) rfl rfl, _, rfl, _, _, rfl, rfl, m0, ?_⟩
    refine ⟨_, rfl, S, _, _, _, rfl, rfl, .inl (.inl hS), at_of (j := 0) rfl rfl, _, rfl, _, _, rfl, rfl, ⟨m0, by omega⟩, ?_⟩
    refine ⟨_, rfl, S, _, _, 0, rfl, rfl, hS, ix0, ?_⟩
    have f1 : Fwd S H (upd H S (.lst (((c :: ini ++ [l] : List Int).map V.int).set 0 (.int (c / many))))) := Fwd.own
    have h1 : (upd H S (.lst (((c :: ini ++ [l] : List Int).map V.int).set 0 (.int (c / many))))) S = some (.lst ((c / many :: ini ++ [l] : List Int).map V.int)) := upd_same
    show tSeq _ _ _ _ (upd H S (.lst (((c :: ini ++ [l] : List Int).map V.int).set 0 (.int (c / many)))))
    generalize upd H S (.lst (((c :: ini ++ [l] : List Int).map V.int).set 0 (.int (c / many)))) = H1 at f1 h1
    refine ⟨_, rfl, S, _, _, _, rfl, rfl, .inl (.inl h1), at_of (j := 0) rfl rfl, _, rfl, (by show 2 ≤ sizeLine; decide), fun T1 hT1 => ⟨T1, _, rfl, .inr (.inl (.inl upd_same)), rfl, rfl, _, rfl, ?_⟩⟩
    have nST : S ≠ T1 := ne_of_none h1 hT1
    have f2 : Fwd S H (upd H1 T1 (.tup [.int 0, .int (-1)])) := f1.trans (Fwd.new hT1)
    have h2 : (upd H1 T1 (.tup [.int 0, .int (-1)])) S = some (.lst ((c / many :: ini ++ [l] : List Int).map V.int)) := (upd_ne nST).trans h1
    have d0 : 0 ≤ c % many := Int.emod_nonneg _ (by omega)
    have d1 : c % many < many := Int.emod_lt_of_pos _ m0
    cases hb : inV (V.int (c / many)) [.int 0, .int (-1)] with
    | false =>
      refine iteFr rfl ?_
      exact ⟨_, rfl, q _ _ d0 d1 f2 ⟨_, h2, c / many :: ini, l, rfl, l0, l1, hi⟩⟩
    | true =>
      have ix1 : seqIndex? 0 (List.map V.int (c / many :: ini ++ [l])).length = some 0 := by
        rw [show (List.map V.int (c / many :: ini ++ [l])).length = (ini ++ [l]).length + 1 from by simp]
        show (if 0 ≤ (0 : Int) && (0 : Int) < (((ini ++ [l]).length + 1 : Nat) : Int) then some (0 : Int).toNat else none) = some 0
        rw [if_pos (by rw [Bool.and_eq_true]; exact ⟨by decide, decide_eq_true (by omega)⟩)]
        rfl
      refine iteTr rfl ⟨_, rfl, .inl ⟨rfl, _, .inl (.inl h2)⟩, ?_⟩
      refine ⟨S, _, 0, 0, _, rfl, rfl, h2, by decide, by decide, ix1, rfl, ?_⟩
      refine ⟨_, rfl, q _ _ d0 d1 (f2.trans Fwd.own) ⟨ini ++ [l], upd_same, ini, l, rfl, l0, l1, ?_⟩⟩
      simp only [List.length_cons] at hi
      omega

theorem sqL_kps {H H' : Hp} {a : Addr} {xs : List V} (f : Kps H H') (h : SqL K H a xs) : SqL K H' a xs := by
  rcases h with (h | ⟨q, h⟩) | h
  · exact .inl (.inl (f _ _ h))
  · exact .inl (.inr ⟨q, f _ _ h⟩)
  · exact .inr h
/-! ### _law_drawn -/
theorem cutV_ints (cells : List Int) (lo hi : Option Int) : ∃ ds : List Int, cutV (cells.map V.int) lo hi = ds.map V.int ∧ ds.length ≤ cells.length := by
  unfold cutV
  rw [← List.map_drop, ← List.map_take]
  refine ⟨_, rfl, ?_⟩
  rw [List.length_take, List.length_drop]
  omega
abbrev s__law_drawn : Stmt := top 22
def N__law_drawn : List Str := ["_law_script", "_law_seed", "_law_cell"]
theorem sc__law_drawn : FnScope N__law_drawn ["_law_script"] (defScope s__law_drawn) := ⟨rfl, rfl, rfl, by decide +kernel, rfl, by decide +kernel, by decide +kernel⟩
def spDrawn (K : PySem.W.Frag) : Sp := fun vs H Q _ => ∃ (X : Addr) (cells : List Int), vs = [.ref X] ∧ SqL K H X (cells.map V.int) ∧ cells.length ≤ 63 ∧
  ∀ S H', H S = none → Kps H H' → StAt H' S → Q (.ref S) H'
theorem ok__law_drawn (F : Fun K "_law_drawn" "_law_drawn" s__law_drawn f fd) (T : LT mg) : FnN P w K mg base CX0 1 f fd ["_law_script"] (spDrawn K) := by
  refine okN0 F sc__law_drawn (fun vs H Q E h => ?_) (fun cdv A' outer s H vs Q E hr h => ?_)
  · obtain ⟨_, _, rfl, _⟩ := h
    rfl
  obtain ⟨X, cells, rfl, hX, hl, q⟩ := h
  refine ⟨_, (pss_cons (ps_set (i := 1) sc__law_drawn.nd rfl (Or.inl rfl) pe_int)
  (pss_cons (ps_for PassesOwn.never rfl (pi_list (pv 0)) (pg_name (i := 2) sc__law_drawn.nd rfl (.inl rfl))
    (pss_one (ps_set (i := 1) sc__law_drawn.nd rfl (Or.inl rfl) (pe_op op_mod (pe_op op_add (pe_op op_add (pe_op op_mulW (pv 1) pe_int) (pe_op op_mod (pv 2) (pe_op op_pow pe_int pe_int))) pe_int) (pe_op op_sub (pe_op op_pow pe_int pe_int) pe_int)))))
  (pss_cons (ps_if (PW.pt (pw_and (pt_cmpR op_gt (pe_callB call_len_seq (by rfl) T.z_len PySem.boot_len (pa_cons (pv 0) pa_nil)) pe_int (nomark _)) (pw_and1 (pt_cmpR op_eq (pe_op op_mod (pe_ix ix_list (pv 0) pe_int (fun _ _ => rfl)) pe_int) pe_int (nomark _)))))
    (pss_one (ps_ret (pe_op op_cat (pe_op op_cat (pe_lst (pa_cons (pe_op op_fdiv (pe_ix ix_list (pv 0) pe_int (fun _ _ => rfl)) pe_int) pa_nil)) (pe_slice sl_list (pv 0) (po_some pe_int) (po_some pe_int))) (pe_lst (pa_cons (pv 1) pa_nil)))))
    pss_nil)
  (pss_one (ps_ret (pe_lst (pa_cons (pv 1) pa_nil))))))), ?_⟩
  have e1 : (2 : Int) ^ (61 : Int).toNat - 1 = 2305843009213693951 := by decide +kernel
  refine ⟨_, rfl, X, rfl, ⟨_, hX⟩, for_list (K := K) (a := X) (xs := cells.map V.int) (fun i σ H' => ∃ (sd : Int) (o : Option V), σ = [some (.ref X), some (.int sd), o] ∧ H' = H ∧ 0 ≤ sd ∧ sd < 2 ^ 61)
    ⟨_, none, rfl, rfl, by decide, by decide⟩ ?_ ?_ ?_⟩
  · rintro i σ H' _ ⟨_, _, _, rfl, _⟩
    exact hX
  · rintro i y σ H' hi ⟨sd, o, rfl, rfl, s0, s1⟩
    rw [List.getElem?_map] at hi
    obtain ⟨c, hc, rfl⟩ := Option.map_eq_some_iff.mp hi
    have wd : CMulW sd 7368787 := wide_mul (a := 62) (b := 62) (by omega) (by decide) (by decide) (by decide) (by decide)
    refine ⟨_, rfl, _, _, rfl, rfl, wd, _, rfl, _, _, rfl, rfl, ⟨by decide, by decide, by decide⟩, _, _, rfl, rfl, (by show (0 : Int) < 10 ^ Int.toNat 30; decide +kernel), _, _, rfl, rfl, _, _, rfl, rfl, _, _, rfl, rfl, ⟨by decide, by decide, by decide⟩, _, _, rfl, rfl, _, _, rfl, rfl, (by show (0 : Int) < 2 ^ Int.toNat 61 - 1; decide +kernel), ?_⟩
    refine ⟨_, _, rfl, rfl, ?_, ?_⟩
    · exact Int.emod_nonneg _ (by rw [e1]; decide)
    · have := Int.emod_lt_of_pos (sd * 7368787 + c % 10 ^ (30 : Int).toNat + 11) (show (0 : Int) < 2 ^ (61 : Int).toNat - 1 by rw [e1]; decide)
      rw [e1] at this ⊢
      omega
  rintro σ H' ⟨sd, o, rfl, hH, s0, s1⟩
  obtain rfl : H = H' := hH.symm
  have end1 : ∀ p, H p = none → Q (.ref p) (upd H p (.lst [.int sd])) := fun p hp => q p _ hp (Kps.new hp) ⟨[sd], upd_same, [], sd, rfl, s0, s1, by decide⟩
  refine ⟨_, rfl, X, _, rfl, .inl hX, _, _, rfl, rfl, _, rfl, ?_⟩
  cases cells with
  | nil =>
    refine iteFr rfl (iteF ?_)
    exact ⟨_, rfl, (by show 1 ≤ sizeLine; decide), end1⟩
  | cons c cs =>
    refine iteTr (decide_eq_true (by simp only [List.length_map, List.length_cons]; omega)) ?_
    refine ⟨_, rfl, X, _, _, _, rfl, rfl, hX, at_of (j := 0) rfl rfl, _, _, rfl, rfl, (by show (0 : Int) < 2; decide), rfl, _, rfl, ?_⟩
    cases hb : decide (V.int (c % 2) = V.int 1) with
    | false =>
      refine iteFr rfl ?_
      exact ⟨_, rfl, (by show 1 ≤ sizeLine; decide), end1⟩
    | true =>
      refine iteTr rfl ?_
      refine ⟨_, rfl, X, _, _, _, rfl, rfl, hX, at_of (j := 0) rfl rfl, _, _, rfl, rfl, ⟨by decide, by decide⟩, (by show 1 ≤ sizeLine; decide), fun p1 hp1 => ?_⟩
      have k1 : Kps H (upd H p1 (.lst [.int (c / 2)])) := Kps.new hp1
      have h1 : (upd H p1 (.lst [.int (c / 2)])) p1 = some (.lst [.int (c / 2)]) := upd_same
      dsimp only
      generalize upd H p1 (.lst [.int (c / 2)]) = H1 at k1 h1
      obtain ⟨ds, ed, ld⟩ := cutV_ints (c :: cs) (some 1) (some 63)
      refine ⟨_, rfl, _, rfl, _, rfl, X, _, rfl, sqL_kps k1 hX, fun p2 hp2 => ?_⟩
      rw [ed]
      have k2 : Kps H1 (upd H1 p2 (.lst (ds.map V.int))) := Kps.new hp2
      have h12 := k2 _ _ h1
      have h2 : (upd H1 p2 (.lst (ds.map V.int))) p2 = some (.lst (ds.map V.int)) := upd_same
      generalize upd H1 p2 (.lst (ds.map V.int)) = H2 at k2 h12 h2
      have lds : ds.length ≤ 63 := Nat.le_trans ld hl
      refine ⟨p1, p2, _, _, rfl, rfl, h12, h2, ?_, fun p3 hp3 => ?_⟩
      · rw [List.length_map]
        exact Nat.le_trans (show 1 + ds.length ≤ 64 by omega) (by decide)
      have k3 : Kps H2 (upd H2 p3 (.lst ([.int (c / 2)] ++ ds.map V.int))) := Kps.new hp3
      have h3 : (upd H2 p3 (.lst ([.int (c / 2)] ++ ds.map V.int))) p3 = some (.lst ([.int (c / 2)] ++ ds.map V.int)) := upd_same
      generalize upd H2 p3 (.lst ([.int (c / 2)] ++ ds.map V.int)) = H3 at k3 h3
      refine ⟨_, rfl, (by show 1 ≤ sizeLine; decide), fun p4 hp4 => ?_⟩
      have k4 : Kps H3 (upd H3 p4 (.lst [.int sd])) := Kps.new hp4
      have h34 := k4 _ _ h3
      have h4 : (upd H3 p4 (.lst [.int sd])) p4 = some (.lst [.int sd]) := upd_same
      generalize upd H3 p4 (.lst [.int sd]) = H4 at k4 h34 h4
      refine ⟨p3, p4, _, _, rfl, rfl, h34, h4, ?_, fun p5 hp5 => ?_⟩
      · simp only [List.length_append, List.length_map, List.length_cons, List.length_nil]
        exact Nat.le_trans (show 0 + 1 + ds.length + (0 + 1) ≤ 65 by omega) (by decide)
      have k14 := k1.trans (k2.trans (k3.trans k4))
      have n5 : H p5 = none := by
        cases z : H p5 with
        | none => rfl
        | some o =>
          rw [k14 _ _ z] at hp5
          cases hp5
      refine q p5 _ n5 (k14.trans (Kps.new hp5)) ⟨c / 2 :: ds ++ [sd], ?_, c / 2 :: ds, sd, rfl, s0, s1, by simp only [List.length_cons]; omega⟩
      rw [upd_same]
      simp
end
end FW

set_option Elab.async false
set_option linter.all false
set_option maxRecDepth 100000
set_option maxHeartbeats 8000000
/-! GB: the law's draws: names. -/
namespace FW
open PySem PySem.Spec PyProof.Rows L2

def WOk (x : Str) : Prop := x.cps.toList ≠ [] ∧ x.length ≤ 1000
structure GAt (H : Hp) (S P : Addr) (pool : List Str) : Prop where
  st : StAt H S
  pl : H P = some (.lst (pool.map V.str))
  n6 : pool.length = 6
  ok : ∀ x ∈ pool, WOk x
theorem GAt.ne {H : Hp} {S P : Addr} {pool : List Str} (g : GAt H S P pool) : P ≠ S := fun e => by
  obtain ⟨ns, h, ini, l, rfl, _⟩ := g.st
  have h2 := g.pl
  rw [e, h] at h2
  injection h2 with h2
  injection h2 with h2
  have n6 := g.n6
  match pool, n6 with
  | x :: r, _ =>
    cases ini with
    | nil => cases h2
    | cons c r => cases h2
theorem GAt.step {H H' : Hp} {S P : Addr} {pool : List Str} (g : GAt H S P pool) (f : Fwd S H H') (st : StAt H' S) : GAt H' S P pool := ⟨st, f _ _ g.pl g.ne, g.n6, g.ok⟩
theorem GAt.kps {H H' : Hp} {S P : Addr} {pool : List Str} (g : GAt H S P pool) (f : Kps H H') : GAt H' S P pool := ⟨by obtain ⟨ns, h, o⟩ := g.st; exact ⟨ns, f _ _ h, o⟩, f _ _ g.pl, g.n6, g.ok⟩
theorem StAt.kps {H H' : Hp} {S : Addr} (g : StAt H S) (f : Kps H H') : StAt H' S := by
  obtain ⟨ns, h, o⟩ := g
  exact ⟨ns, f _ _ h, o⟩
theorem at_any {α : Type} {xs : List α} {z : Int} {j : Nat} {v : α} (e : z = (j : Int)) (h : xs[j]? = some v) : atI xs z = some v := by
  rw [e]
  exact atI_nat h
/-- a drawn place in a list -/
theorem at_lt {xs : List V} {d : Int} {n : Nat} (hl : xs.length = n) (h0 : 0 ≤ d) (h1 : d < n) : ∃ v, atI xs d = some v ∧ v ∈ xs := by
  have hj : d.toNat < xs.length := by omega
  exact ⟨xs[d.toNat], at_of (j := d.toNat) (by omega) (List.getElem?_eq_getElem hj), List.getElem_mem hj⟩
section
variable {P : Program} {w : World} {K : PySem.W.Frag} {mg : Str → Option Value} {base : Heap} {f : Addr} {fd : FuncData}
abbrev s__law_names : Stmt := top 23
def N__law_names : List Str := ["_law_state", "_law_many", "_law_stem", "_law_turn", "_law_k"]
theorem sc__law_names : FnScope N__law_names ["_law_state", "_law_many"] (defScope s__law_names) := ⟨rfl, rfl, rfl, by decide +kernel, rfl, by decide +kernel, by decide +kernel⟩
def spNames : Sp := fun vs H Q _ => ∃ (S : Addr), vs = [.ref S, .int 6] ∧ StAt H S ∧ ∀ P pool H', H P = none → Fwd S H H' → GAt H' S P pool → Q (.ref P) H'
theorem ok__law_names (F : Fun K "_law_names" "_law_names" s__law_names f fd) (T : LT mg) (c__law_next : CalN P w K mg base CX0 1 "_law_next" ["_law_state", "_law_many"] spNext) :
    FnN P w K mg base CX0 2 f fd ["_law_state", "_law_many"] spNames := by
  refine okN0 F sc__law_names (fun vs H Q E h => ?_) (fun cdv A' outer s H vs Q E hr h => ?_)
  · obtain ⟨_, rfl, _⟩ := h
    rfl
  obtain ⟨S, rfl, st, q⟩ := h
  refine ⟨_, (pss_cons (ps_set (i := 2) sc__law_names.nd rfl (Or.inr rfl) (pe_ix ix_list (pe_lst (pa_cons pe_str (pa_cons pe_str (pa_cons pe_str (pa_cons pe_str (pa_cons pe_str (pa_cons pe_str pa_nil))))))) (pe_cN c__law_next hr (by rfl) pass0 (pa_cons (pv 0) (pa_cons pe_int pa_nil))) (fun _ _ => rfl)))
  (pss_cons (ps_set (i := 3) sc__law_names.nd rfl (Or.inr rfl) (pe_cN c__law_next hr (by rfl) pass0 (pa_cons (pv 0) (pa_cons pe_int pa_nil))))
  (pss_one (ps_ret (pe_lc (own := [("_law_k", 4)]) rfl sc__law_names.nd (pi_range1 rfl T.z_range (pa_cons (pv 1) pa_nil)) (blkOk_by (own := [("_law_k", 4)]) (N := N__law_names) (sc := defScope s__law_names) (by decide +kernel)) (fun _ _ _ _ _ => (pg_name (i := 4) sc__law_names.nd rfl (.inl rfl))) (fun _ _ _ _ _ => pts_nil) (fun _ _ _ _ _ => (pe_op op_add_str (pv 2) (pe_ix ix_str pe_str (pe_op op_mod (pe_op op_add (pv 3) (pv 4)) pe_int) (fun _ _ => rfl))))))))), ?_⟩
  refine ⟨(by show 6 ≤ sizeLine; decide), fun p1 hp1 => ?_⟩
  have k1 : Kps H (upd H p1 (.lst [.str "x", .str "ab", .str "nu", .str "le", .str "i", .str "zzzzzz"])) := Kps.new hp1
  have h1 : (upd H p1 (.lst [.str "x", .str "ab", .str "nu", .str "le", .str "i", .str "zzzzzz"])) p1 = some (.lst [.str "x", .str "ab", .str "nu", .str "le", .str "i", .str "zzzzzz"]) := upd_same
  generalize upd H p1 (.lst [.str "x", .str "ab", .str "nu", .str "le", .str "i", .str "zzzzzz"]) = H1 at k1 h1
  have st1 := st.kps k1
  refine ⟨_, rfl, S, 6, rfl, st1, by decide, by decide, fun d1 H2 d10 d11 f2 st2 => ?_⟩
  have np1 : p1 ≠ S := by
    obtain ⟨ns, h, _⟩ := st
    exact (ne_of_none h hp1).symm
  have h2 := f2 _ _ h1 np1
  obtain ⟨v, hv, mv⟩ := at_lt (n := 6) (xs := [.str "x", .str "ab", .str "nu", .str "le", .str "i", .str "zzzzzz"]) rfl d10 d11
  obtain ⟨x, rfl, hx1, hx2⟩ : ∃ x : Str, v = .str x ∧ x.cps.toList ≠ [] ∧ x.length ≤ 6 := by
    simp only [List.mem_cons, List.mem_nil_iff, or_false] at mv
    rcases mv with rfl | rfl | rfl | rfl | rfl | rfl <;> exact ⟨_, rfl, by decide +kernel, by decide +kernel⟩
  refine ⟨p1, _, _, _, rfl, rfl, .inl (.inl h2), hv, ?_⟩
  refine ⟨_, rfl, S, 12, rfl, st2, by decide, by decide, fun d2 H3 d20 d21 f3 st3 => ?_⟩
  refine ⟨_, rfl, 6, rfl, by decide, by decide, fun L hL => ?_⟩
  have nSL : S ≠ L := by
    obtain ⟨ns, h, _⟩ := st3
    exact ne_of_none h hL
  have fL : ∀ o, Fwd S H (upd H3 L o) := fun o => ((k1.fwd S).trans (f2.trans f3)).trans (Fwd.new hL)
  refine lc_range (lo := 0) (n := 6) (fun i H' => ∃ ws : List Str, ws.length = i ∧ (∀ x ∈ ws, WOk x) ∧ H' = upd H3 L (.lst (ws.map V.str))) ⟨[], rfl, (by intro x hx; cases hx), rfl⟩ ?_ ?_
  · rintro i H' hi ⟨ws, hl, hw, rfl⟩
    refine ⟨rfl, ?_⟩
    refine ⟨_, rfl, _, rfl, _, rfl, _, _, rfl, rfl, _, _, rfl, rfl, (by show (0 : Int) < 12; decide), ?_⟩
    have m0 : 0 ≤ (d2 + (0 + (i : Int))) % 12 := Int.emod_nonneg _ (by decide)
    have m1 : (d2 + (0 + (i : Int))) % 12 < 12 := Int.emod_lt_of_pos _ (by decide)
    have hlen : ("bcdgjkoqvwyz" : Str).cps.toList.length = 12 := by decide +kernel
    have hj : ((d2 + (0 + (i : Int))) % 12).toNat < ("bcdgjkoqvwyz" : Str).cps.toList.length := by rw [hlen]; omega
    refine ⟨"bcdgjkoqvwyz", (d2 + (0 + (i : Int))) % 12, _, rfl, rfl, by decide +kernel, at_any (j := ((d2 + (0 + (i : Int))) % 12).toNat) (Int.toNat_of_nonneg m0).symm (List.getElem?_eq_getElem hj), ?_⟩
    generalize ("bcdgjkoqvwyz" : Str).cps.toList[((d2 + (0 + (i : Int))) % 12).toNat] = c
    refine ⟨_, _, rfl, rfl, Nat.le_trans (show x.length + 1 ≤ 7 by omega) (by decide), ?_⟩
    refine ⟨_, upd_same, ?_, ws ++ [x ++ ⟨#[c]⟩], by rw [List.length_append, hl]; rfl, ?_, ?_⟩
    · rw [List.length_map, hl]
      exact Nat.lt_of_lt_of_le hi (by decide)
    · intro y hy
      rcases List.mem_append.mp hy with hy | hy
      · exact hw y hy
      · rw [List.mem_singleton] at hy
        subst hy
        refine ⟨?_, ?_⟩
        · show (x.cps ++ #[c]).toList ≠ []
          simp
        · show (x.cps ++ #[c]).size ≤ 1000
          rw [Array.size_append]
          have : x.cps.size ≤ 6 := hx2
          show x.cps.size + 1 ≤ 1000
          omega
    · rw [upd_upd, List.map_append]
      rfl
  · rintro H' ⟨ws, hl, hw, rfl⟩
    have nL : H L = none := by
      cases z : H L with
      | none => rfl
      | some o =>
        have := ((k1.fwd S).trans (f2.trans f3)) _ _ z nSL.symm
        rw [this] at hL
        cases hL
    refine q L ws _ nL (fL _) ⟨?_, upd_same, hl, hw⟩
    obtain ⟨ns, h, o⟩ := st3
    exact ⟨ns, (upd_ne nSL).trans h, o⟩
end
end FW

set_option Elab.async false
set_option linter.all false
set_option maxRecDepth 100000
set_option maxHeartbeats 8000000
/-! GC: the law's draws: rings, nests. -/
namespace FW
open PySem PySem.Spec PyProof.Rows L2

section
variable {K : PySem.W.Frag} {H : Hp} {pool : List Str}
theorem dq_new2 {t : Addr} {x y : V} {a b : PyData} (ha : Dq K H x a) (hb : Dq K H y b) (ht : H t = none) : Dq K (upd H t (.tup [x, y])) (.ref t) (.tuple [a, b]) :=
  .tup (.inl (.inl upd_same)) (.cons (dp_kps (Kps.new ht) ha) (.cons (dp_kps (Kps.new ht) hb) .nil))
theorem dq_new1 {t : Addr} {x : V} {a : PyData} (ha : Dq K H x a) (ht : H t = none) : Dq K (upd H t (.tup [x])) (.ref t) (.tuple [a]) :=
  .tup (.inl (.inl upd_same)) (.cons (dp_kps (Kps.new ht) ha) .nil)
theorem dq_new3 {t : Addr} {x y z : V} {a b c : PyData} (ha : Dq K H x a) (hb : Dq K H y b) (hc : Dq K H z c) (ht : H t = none) : Dq K (upd H t (.tup [x, y, z])) (.ref t) (.tuple [a, b, c]) :=
  .tup (.inl (.inl upd_same)) (.cons (dp_kps (Kps.new ht) ha) (.cons (dp_kps (Kps.new ht) hb) (.cons (dp_kps (Kps.new ht) hc) .nil)))
theorem dq_new4 {t : Addr} {x y z u : V} {a b c d : PyData} (ha : Dq K H x a) (hb : Dq K H y b) (hc : Dq K H z c) (hd : Dq K H u d) (ht : H t = none) : Dq K (upd H t (.tup [x, y, z, u])) (.ref t) (.tuple [a, b, c, d]) :=
  .tup (.inl (.inl upd_same)) (.cons (dp_kps (Kps.new ht) ha) (.cons (dp_kps (Kps.new ht) hb) (.cons (dp_kps (Kps.new ht) hc) (.cons (dp_kps (Kps.new ht) hd) .nil))))
theorem GAt.at {S P : Addr} (g : GAt H S P pool) {d : Int} (h0 : 0 ≤ d) (h1 : d < 6) : ∃ x, atI (pool.map V.str) d = some (.str x) ∧ x ∈ pool := by
  obtain ⟨v, hv, m⟩ := at_lt (n := 6) (xs := pool.map V.str) (by rw [List.length_map]; exact g.n6) h0 h1
  obtain ⟨x, hx, rfl⟩ := List.mem_map.mp m
  exact ⟨x, hv, hx⟩
theorem dqall_snoc : ∀ {vs : List V} {ds : List PyData} {v : V} {d : PyData}, DqAll K H vs ds → Dq K H v d → DqAll K H (vs ++ [v]) (ds ++ [d])
  | _, _, _, _, .nil, h => .cons h .nil
  | _, _, _, _, .cons h t, h' => .cons h (dqall_snoc t h')
/-- from H0 the draws have come to H -/
structure Dr (K : PySem.W.Frag) (H0 : Hp) (S P : Addr) (pool : List Str) (H : Hp) : Prop where
  g : GAt H S P pool
  f : Fwd S H0 H
theorem Dr.next {H0 H H' : Hp} {S P : Addr} (r : Dr K H0 S P pool H) (f : Fwd S H H') (st : StAt H' S) : Dr K H0 S P pool H' := ⟨r.g.step f st, r.f.trans f⟩
theorem Dr.kps {H0 H H' : Hp} {S P : Addr} (r : Dr K H0 S P pool H) (k : Kps H H') : Dr K H0 S P pool H' := ⟨r.g.kps k, r.f.trans (k.fwd S)⟩
theorem Dr.dq {H0 H H' : Hp} {S P : Addr} (r : Dr K H0 S P pool H) (f : Fwd S H H') {v : V} {d : PyData} (h : Dq K H v d) : Dq K H' v d := dp_fwd r.g.st.ns f h
theorem wword {x : Str} {n : Nat} (h : WOk x) : Wf pool (n + 1) (.str x) := .word h.1 h.2
theorem wint {i : Int} {n : Nat} (h : i.natAbs < 2 ^ 200) : Wf pool (n + 1) (.int i) := .int h
theorem small200 {i : Int} (h0 : 0 ≤ i) (h1 : i < 1000000) : i.natAbs < 2 ^ 200 := Nat.lt_of_lt_of_le (show i.natAbs < 1000000 by omega) (by decide)
end
section
variable {P : Program} {w : World} {K : PySem.W.Frag} {mg : Str → Option Value} {base : Heap} {f : Addr} {fd : FuncData}
abbrev fnD (f : Str × Str × PyData) : PyData := .tuple [.str f.1, .str f.2.1, f.2.2]
abbrev s__law_ring : Stmt := top 35
def N__law_ring : List Str := ["_law_state", "_law_pool", "_law_many", "_law_functions", "_law_k", "_law_thing", "_law_other", "_law_call", "_law_body"]
theorem sc__law_ring : FnScope N__law_ring ["_law_state", "_law_pool", "_law_many"] (defScope s__law_ring) := ⟨rfl, rfl, rfl, by decide +kernel, rfl, by decide +kernel, by decide +kernel⟩
def spRing (K : PySem.W.Frag) : Sp := fun vs H Q _ => ∃ (S P : Addr) (many : Int) (pool : List Str), vs = [.ref S, .ref P, .int many] ∧ GAt H S P pool ∧ 0 < many ∧ many ≤ 4 ∧
  ∀ (v : V) (fs : List (Str × Str × PyData)) (H' : Hp), Fwd S H H' → StAt H' S → Dq K H' v (.tuple (fs.map fnD)) → (∀ f ∈ fs, f.1 ∈ pool ∧ f.2.1 ∈ pool) → (∀ f ∈ fs, Wf pool 7 f.2.2) → fs.length ≤ 4 → Q v H'
theorem ok__law_ring (F : Fun K "_law_ring" "_law_ring" s__law_ring f fd) (T : LT mg) (c__law_next : CalN P w K mg base CX0 1 "_law_next" ["_law_state", "_law_many"] spNext) :
    FnN P w K mg base CX0 2 f fd ["_law_state", "_law_pool", "_law_many"] (spRing K) := by
  refine okN0 F sc__law_ring (fun vs H Q E h => ?_) (fun cdv A' outer s H vs Q E hr h => ?_)
  · obtain ⟨_, _, _, _, rfl, _⟩ := h
    rfl
  obtain ⟨S, Pa, many, pool, rfl, g, m0, m4, q⟩ := h
  refine ⟨_, (pss_cons (ps_set (i := 3) sc__law_ring.nd rfl (Or.inl rfl) (pe_lst pa_nil))
  (pss_cons (ps_for PassesOwn.never rfl (pi_range1 rfl T.z_range (pa_cons (pv 2) pa_nil)) (pg_name (i := 4) sc__law_ring.nd rfl (.inl rfl))
    (pss_cons (ps_set (i := 5) sc__law_ring.nd rfl (Or.inl rfl) (pe_ix ix_list (pv 1) (pe_op op_add pe_int (pe_cN c__law_next hr (by rfl) pass0 (pa_cons (pv 0) (pa_cons pe_int pa_nil)))) (fun _ _ => rfl)))
    (pss_cons (ps_set (i := 6) sc__law_ring.nd rfl (Or.inl rfl) (pe_ix ix_list (pv 1) (pe_cN c__law_next hr (by rfl) pass0 (pa_cons (pv 0) (pa_cons (pv 2) pa_nil))) (fun _ _ => rfl)))
    (pss_cons (ps_set (i := 7) sc__law_ring.nd rfl (Or.inl rfl) (pe_tup (pa_cons pe_str (pa_cons (pv 6) (pa_cons (pe_tup (pa_cons pe_str (pa_cons (pv 5) (pa_cons (pe_op op_add pe_int (pe_cN c__law_next hr (by rfl) pass0 (pa_cons (pv 0) (pa_cons pe_int pa_nil)))) pa_nil)))) pa_nil)))))
    (pss_cons (ps_if (pt_cmpR op_eq (pe_cN c__law_next hr (by rfl) pass0 (pa_cons (pv 0) (pa_cons pe_int pa_nil))) pe_int (nomark _))
      (pss_one (ps_set (i := 7) sc__law_ring.nd rfl (Or.inl rfl) (pe_tup (pa_cons pe_str (pa_cons (pv 6) (pa_cons (pe_tup (pa_cons pe_str (pa_cons (pv 5) (pa_cons (pe_tup (pa_cons pe_str (pa_cons (pe_tup (pa_cons pe_str (pa_cons (pv 5) (pa_cons pe_int pa_nil)))) (pa_cons (pe_ix ix_tup (pv 7) pe_int (fun _ _ => rfl)) pa_nil)))) pa_nil)))) pa_nil))))))
      pss_nil)
    (pss_cons (ps_set (i := 8) sc__law_ring.nd rfl (Or.inl rfl) (pe_tup (pa_cons (pe_ix ix_list (pe_lst (pa_cons pe_str (pa_cons pe_str (pa_cons pe_str pa_nil)))) (pe_cN c__law_next hr (by rfl) pass0 (pa_cons (pv 0) (pa_cons pe_int pa_nil))) (fun _ _ => rfl)) (pa_cons (pe_op op_add pe_int (pe_cN c__law_next hr (by rfl) pass0 (pa_cons (pv 0) (pa_cons pe_int pa_nil)))) (pa_cons (pv 7) pa_nil)))))
    (pss_one (ps_expr (pe_bm PySem.F.plainAttrs_list PySem.F.slot_list_append PySem.F.type_list_append mt_append (pv 3) (pa_cons (pe_tup (pa_cons (pe_ix ix_list (pv 1) (pv 4) (fun _ _ => rfl)) (pa_cons (pv 5) (pa_cons (pe_tup (pa_cons pe_str (pa_cons (pe_tup (pa_cons pe_str (pa_cons (pv 5) (pa_cons pe_int pa_nil)))) (pa_cons (pe_cN c__law_next hr (by rfl) pass0 (pa_cons (pv 0) (pa_cons pe_int pa_nil))) (pa_cons (pv 8) pa_nil))))) pa_nil)))) pa_nil))))))))))
  (pss_one (ps_ret (pe_callTy call_tuple_of (by rfl) T.z_tuple (by decide +kernel) (pa_cons (pv 3) pa_nil)))))), ?_⟩
  refine ⟨(by show 0 ≤ sizeLine; decide), fun F hF => ?_⟩
  have nSF : S ≠ F := by
    obtain ⟨ns, h, _⟩ := g.st
    exact ne_of_none h hF
  have nPF : Pa ≠ F := ne_of_none g.pl hF
  have r0 : Dr K H S Pa pool (upd H F (.lst [])) := ⟨g.kps (Kps.new hF), Fwd.new hF⟩
  refine ⟨_, rfl, many, rfl, by omega, by omega, for_range (lo := 0) (n := many.toNat) (fun i σ H' => ∃ (o1 o2 o3 o4 o5 : Option V) (us : List V) (fs : List (Str × Str × PyData)),
      σ = [some (.ref S), some (.ref Pa), some (.int many), some (.ref F), o1, o2, o3, o4, o5] ∧ Dr K H S Pa pool H' ∧ H' F = some (.lst us) ∧ us.length = i ∧ DqAll K H' us (fs.map fnD) ∧
      (∀ f ∈ fs, f.1 ∈ pool ∧ f.2.1 ∈ pool) ∧ (∀ f ∈ fs, Wf pool 7 f.2.2))
    ⟨_, _, _, _, _, [], [], rfl, r0, upd_same, rfl, .nil, (by intro f hf; cases hf), (by intro f hf; cases hf)⟩ ?_ ?_⟩
  · rintro i σ H0 hi ⟨o1, o2, o3, o4, o5, us, fs, rfl, r, hF0, hl, dq, hp, hw⟩
    -- thing = pool[4 + next(2)]
    refine ⟨_, rfl, _, rfl, S, 2, rfl, r.g.st, by decide, by decide, fun d1 H1 d10 d11 f1 st1 => ?_⟩
    have r1 := r.next f1 st1
    obtain ⟨x5, e5, m5⟩ := r1.g.at (d := 4 + d1) (by omega) (by omega)
    refine ⟨_, _, rfl, rfl, Pa, _, _, _, rfl, rfl, .inl (.inl r1.g.pl), e5, ?_⟩
    -- other = pool[next(many)]
    refine ⟨_, rfl, _, rfl, _, rfl, S, many, rfl, r1.g.st, m0, by omega, fun d2 H2 d20 d21 f2 st2 => ?_⟩
    have r2 := r1.next f2 st2
    obtain ⟨x6, e6, m6⟩ := r2.g.at (d := d2) d20 (by omega)
    refine ⟨Pa, _, _, _, rfl, rfl, .inl (.inl r2.g.pl), e6, ?_⟩
    -- ('call', other, ('minus', thing, 1 + next(2)))
    refine ⟨_, rfl, _, rfl, _, rfl, S, 2, rfl, r2.g.st, by decide, by decide, fun d3 H3 d30 d31 f3 st3 => ?_⟩
    have r3 := r2.next f3 st3
    refine ⟨_, _, rfl, rfl, (by show 3 ≤ sizeLine; decide), fun t1 ht1 => ?_⟩
    have dq1 := dq_new3 (K := K) (.str "minus") (.str x5) (.int (1 + d3)) ht1
    have k4 : Kps H3 (upd H3 t1 (.tup [.str "minus", .str x5, .int (1 + d3)])) := Kps.new ht1
    dsimp only
    generalize upd H3 t1 (.tup [.str "minus", .str x5, .int (1 + d3)]) = H4 at dq1 k4
    have r4 := r3.kps k4
    have w1 : Wf pool 2 (.tuple [.str "minus", .str x5, .int (1 + d3)]) := .op (.inr (.inl rfl)) (wword (n := 0) (g.ok _ m5)) (wint (small200 (by omega) (by omega)))
    refine ⟨(by show 3 ≤ sizeLine; decide), fun t2 ht2 => ?_⟩
    have dq2 := dq_new3 (K := K) (.str "call") (.str x6) dq1 ht2
    have dq12 := dp_kps (Kps.new (o := .tup [.str "call", .str x6, .ref t1]) ht2) dq1
    have sq2 : SqT K (upd H4 t2 (.tup [.str "call", .str x6, .ref t1])) t2 [.str "call", .str x6, .ref t1] := .inl (.inl upd_same)
    have k5 : Kps H4 (upd H4 t2 (.tup [.str "call", .str x6, .ref t1])) := Kps.new ht2
    generalize upd H4 t2 (.tup [.str "call", .str x6, .ref t1]) = H5 at dq2 dq12 sq2 k5
    have r5 := r4.kps k5
    -- if next(5) == 0
    refine ⟨_, rfl, S, 5, rfl, r5.g.st, by decide, by decide, fun d5 H6 d50 d51 f6 st6 => ?_⟩
    have r6 := r5.next f6 st6
    have dq26 := r5.dq f6 dq2
    have dq16 := r5.dq f6 dq12
    have sq26 := sqT_fwd r5.g.st.ns f6 sq2
    have f01 : Fwd S H0 H6 := f1.trans f2 |>.trans f3 |>.trans (k4.fwd S) |>.trans (k5.fwd S) |>.trans f6
    have hfl : fs.length = us.length := by rw [dpall_len dq, List.length_map]
    refine ⟨rfl, _, rfl, ?_⟩
    cases hb : decide (V.int d5 = V.int 0) with
    | false =>
      refine iteFr rfl ?_
      have w7 : Wf pool 5 (.tuple [.str "call", .str x6, .tuple [.str "minus", .str x5, .int (1 + d3)]]) := .call (wword (n := 3) (g.ok _ m6)) (w1.mono (by decide))
      have r7 := r6
      -- ['plus', 'minus', 'times'][next(3)], 1 + next(3), call
      refine ⟨(by show 3 ≤ sizeLine; decide), fun p8 hp8 => ?_⟩
      have k8 : Kps H6 (upd H6 p8 (.lst [.str "plus", .str "minus", .str "times"])) := Kps.new hp8
      have h8 : (upd H6 p8 (.lst [.str "plus", .str "minus", .str "times"])) p8 = some (.lst [.str "plus", .str "minus", .str "times"]) := upd_same
      generalize upd H6 p8 (.lst [.str "plus", .str "minus", .str "times"]) = H8 at k8 h8
      have r8 := r7.kps k8
      have np8 : p8 ≠ S := by
        obtain ⟨ns, h, _⟩ := r7.g.st
        exact (ne_of_none h hp8).symm
      refine ⟨_, rfl, S, 3, rfl, r8.g.st, by decide, by decide, fun d8 H9 d80 d81 f9 st9 => ?_⟩
      have r9 := r8.next f9 st9
      have h9 := f9 _ _ h8 np8
      obtain ⟨w8, ew8, mw8⟩ := at_lt (n := 3) (xs := [V.str "plus", .str "minus", .str "times"]) rfl d80 d81
      obtain ⟨wd, rfl, hwd⟩ : ∃ wd : Str, w8 = .str wd ∧ OpW wd := by
        simp only [List.mem_cons, List.mem_nil_iff, or_false] at mw8
        rcases mw8 with rfl | rfl | rfl
        · exact ⟨_, rfl, .inl rfl⟩
        · exact ⟨_, rfl, .inr (.inl rfl)⟩
        · exact ⟨_, rfl, .inr (.inr (.inl rfl))⟩
      refine ⟨p8, _, _, _, rfl, rfl, .inl (.inl h9), ew8, ?_⟩
      refine ⟨_, rfl, S, 3, rfl, r9.g.st, by decide, by decide, fun d9 Ha d90 d91 fa sta => ?_⟩
      have ra := r9.next fa sta
      refine ⟨_, _, rfl, rfl, _, rfl, (by show 3 ≤ sizeLine; decide), fun ta hta => ?_⟩
      have c7a : Dq K Ha (.ref t2) (.tuple [.str "call", .str x6, .tuple [.str "minus", .str x5, .int (1 + d3)]]) := r9.dq fa (r8.dq f9 (dp_kps k8 dq26))
      have da := dq_new3 (.str wd) (.int (1 + d9)) c7a hta
      have ka : Kps Ha (upd Ha ta (.tup [.str wd, .int (1 + d9), (.ref t2)])) := Kps.new hta
      dsimp only
      generalize upd Ha ta (.tup [.str wd, .int (1 + d9), (.ref t2)]) = Hb at da ka
      have rb := ra.kps ka
      have wa : Wf pool 6 (.tuple [.str wd, .int (1 + d9), (.tuple [.str "call", .str x6, .tuple [.str "minus", .str x5, .int (1 + d3)]])]) := .op hwd (wint (small200 (by omega) (by omega))) w7
      -- functions.append(..)
      have hFb : Hb F = some (.lst us) := (f01.trans (Fwd.refl S H6) |>.trans (k8.fwd S) |>.trans f9 |>.trans fa |>.trans (ka.fwd S)) _ _ hF0 nSF.symm
      refine ⟨_, rfl, .inl ⟨rfl, _, .inl (.inl hFb)⟩, ?_⟩
      obtain ⟨xk, ek, mk⟩ := rb.g.at (d := 0 + (i : Int)) (by omega) (by omega)
      refine ⟨_, rfl, _, rfl, Pa, _, _, _, rfl, rfl, .inl (.inl rb.g.pl), ek, _, rfl, _, rfl, (by show 3 ≤ sizeLine; decide), fun tb htb => ?_⟩
      have db := dq_new3 (K := K) (.str "less") (.str x5) (.int 1) htb
      have da1 := dp_kps (Kps.new (o := .tup [.str "less", .str x5, .int 1]) htb) da
      have kb : Kps Hb (upd Hb tb (.tup [.str "less", .str x5, .int 1])) := Kps.new htb
      generalize upd Hb tb (.tup [.str "less", .str x5, .int 1]) = Hc at db da1 kb
      have rc := rb.kps kb
      refine ⟨_, rfl, S, 9, rfl, rc.g.st, by decide, by decide, fun dd Hd dd0 dd1 fd' std => ?_⟩
      have rd := rc.next fd' std
      have dbd := rc.dq fd' db
      have dad := rc.dq fd' da1
      refine ⟨_, rfl, (by show 4 ≤ sizeLine; decide), fun te hte => ?_⟩
      have de := dq_new4 (K := K) (.str "if") dbd (.int dd) dad hte
      have ke : Kps Hd (upd Hd te (.tup [.str "if", .ref tb, .int dd, .ref ta])) := Kps.new hte
      generalize upd Hd te (.tup [.str "if", .ref tb, .int dd, .ref ta]) = He at de ke
      have re := rd.kps ke
      have we : Wf pool 7 (.tuple [.str "if", .tuple [.str "less", .str x5, .int 1], .int dd, .tuple [.str wd, .int (1 + d9), (.tuple [.str "call", .str x6, .tuple [.str "minus", .str x5, .int (1 + d3)]])]]) :=
        .iff (.op (.inr (.inr (.inr rfl))) (wword (n := 4) (g.ok _ m5)) (wint (by decide))) (wint (small200 dd0 (by omega))) wa
      refine ⟨(by show 3 ≤ sizeLine; decide), fun tf htf => ?_⟩
      have df := dq_new3 (K := K) (.str xk) (.str x5) de htf
      have kf : Kps He (upd He tf (.tup [.str xk, .str x5, .ref te])) := Kps.new htf
      generalize upd He tf (.tup [.str xk, .str x5, .ref te]) = Hf at df kf
      have rf := re.kps kf
      have fall : Fwd S H0 Hf := f01.trans (Fwd.refl S H6) |>.trans (k8.fwd S) |>.trans f9 |>.trans fa |>.trans (ka.fwd S) |>.trans (kb.fwd S) |>.trans fd' |>.trans (ke.fwd S) |>.trans (kf.fwd S)
      have hFf : Hf F = some (.lst us) := fall _ _ hF0 nSF.symm
      refine ⟨F, us, .ref tf, rfl, rfl, hFf, Nat.lt_of_lt_of_le (show us.length < 10 by omega) (by decide), ?_⟩
      have nF : NoSeq Hf F := noSeqL hFf
      refine ⟨_, _, _, _, _, us ++ [.ref tf], fs ++ [(xk, x5, .tuple [.str "if", .tuple [.str "less", .str x5, .int 1], .int dd, .tuple [.str wd, .int (1 + d9), (.tuple [.str "call", .str x6, .tuple [.str "minus", .str x5, .int (1 + d3)]])]])], rfl, ⟨⟨?_, ?_, g.n6, g.ok⟩, rf.f.late hF⟩, upd_same, by rw [List.length_append, hl]; rfl, ?_, ?_, ?_⟩
      · obtain ⟨ns, h, o⟩ := rf.g.st
        exact ⟨ns, (upd_ne nSF).trans h, o⟩
      · exact (upd_ne nPF).trans rf.g.pl
      · rw [List.map_append]
        exact dqall_snoc (dps_fwd nF Fwd.own (dps_fwd r.g.st.ns fall dq)) (dp_fwd nF Fwd.own df)
      · intro f hf
        rcases List.mem_append.mp hf with hf | hf
        · exact hp f hf
        · rw [List.mem_singleton] at hf
          subst hf
          exact ⟨mk, m5⟩
      · intro f hf
        rcases List.mem_append.mp hf with hf | hf
        · exact hw f hf
        · rw [List.mem_singleton] at hf
          subst hf
          exact we
    | true =>
      refine iteTr rfl ?_
      -- ('call', other, ('minus', thing, ('call', ('fun', thing, 1), call[2])))
      refine ⟨_, rfl, _, rfl, _, rfl, (by show 3 ≤ sizeLine; decide), fun t3 ht3 => ?_⟩
      have dq3 := dq_new3 (K := K) (.str "fun") (.str x5) (.int 1) ht3
      have ka3 : Kps H6 (upd H6 t3 (.tup [.str "fun", .str x5, .int 1])) := Kps.new ht3
      generalize upd H6 t3 (.tup [.str "fun", .str x5, .int 1]) = H7a at dq3 ka3
      have r7a := r6.kps ka3
      have dq1a := dp_kps ka3 dq16
      refine ⟨_, rfl, t2, _, _, _, rfl, rfl, sqT_kps ka3 sq26, at_of (j := 2) rfl rfl, (by show 3 ≤ sizeLine; decide), fun t4 ht4 => ?_⟩
      have dq4 := dq_new3 (K := K) (.str "call") dq3 dq1a ht4
      have ka4 : Kps H7a (upd H7a t4 (.tup [.str "call", .ref t3, .ref t1])) := Kps.new ht4
      generalize upd H7a t4 (.tup [.str "call", .ref t3, .ref t1]) = H7b at dq4 ka4
      refine ⟨(by show 3 ≤ sizeLine; decide), fun t5 ht5 => ?_⟩
      have dq5 := dq_new3 (K := K) (.str "minus") (.str x5) dq4 ht5
      have ka5 : Kps H7b (upd H7b t5 (.tup [.str "minus", .str x5, .ref t4])) := Kps.new ht5
      generalize upd H7b t5 (.tup [.str "minus", .str x5, .ref t4]) = H7c at dq5 ka5
      refine ⟨(by show 3 ≤ sizeLine; decide), fun t6 ht6 => ?_⟩
      have dq6 := dq_new3 (K := K) (.str "call") (.str x6) dq5 ht6
      have ka6 : Kps H7c (upd H7c t6 (.tup [.str "call", .str x6, .ref t5])) := Kps.new ht6
      generalize upd H7c t6 (.tup [.str "call", .str x6, .ref t5]) = H7 at dq6 ka6
      have w7 : Wf pool 5 (.tuple [.str "call", .str x6, .tuple [.str "minus", .str x5, .tuple [.str "call", .tuple [.str "fun", .str x5, .int 1], .tuple [.str "minus", .str x5, .int (1 + d3)]]]]) :=
        .call (wword (n := 3) (g.ok _ m6)) (.op (.inr (.inl rfl)) (wword (n := 2) (g.ok _ m5)) (.call (.fn m5 (wint (n := 0) (by decide))) w1))
      have kall := ka3.trans (ka4.trans (ka5.trans ka6))
      have r7 := r6.kps kall
      -- ['plus', 'minus', 'times'][next(3)], 1 + next(3), call
      refine ⟨(by show 3 ≤ sizeLine; decide), fun p8 hp8 => ?_⟩
      have k8 : Kps H7 (upd H7 p8 (.lst [.str "plus", .str "minus", .str "times"])) := Kps.new hp8
      have h8 : (upd H7 p8 (.lst [.str "plus", .str "minus", .str "times"])) p8 = some (.lst [.str "plus", .str "minus", .str "times"]) := upd_same
      generalize upd H7 p8 (.lst [.str "plus", .str "minus", .str "times"]) = H8 at k8 h8
      have r8 := r7.kps k8
      have np8 : p8 ≠ S := by
        obtain ⟨ns, h, _⟩ := r7.g.st
        exact (ne_of_none h hp8).symm
      refine ⟨_, rfl, S, 3, rfl, r8.g.st, by decide, by decide, fun d8 H9 d80 d81 f9 st9 => ?_⟩
      have r9 := r8.next f9 st9
      have h9 := f9 _ _ h8 np8
      obtain ⟨w8, ew8, mw8⟩ := at_lt (n := 3) (xs := [V.str "plus", .str "minus", .str "times"]) rfl d80 d81
      obtain ⟨wd, rfl, hwd⟩ : ∃ wd : Str, w8 = .str wd ∧ OpW wd := by
        simp only [List.mem_cons, List.mem_nil_iff, or_false] at mw8
        rcases mw8 with rfl | rfl | rfl
        · exact ⟨_, rfl, .inl rfl⟩
        · exact ⟨_, rfl, .inr (.inl rfl)⟩
        · exact ⟨_, rfl, .inr (.inr (.inl rfl))⟩
      refine ⟨p8, _, _, _, rfl, rfl, .inl (.inl h9), ew8, ?_⟩
      refine ⟨_, rfl, S, 3, rfl, r9.g.st, by decide, by decide, fun d9 Ha d90 d91 fa sta => ?_⟩
      have ra := r9.next fa sta
      refine ⟨_, _, rfl, rfl, _, rfl, (by show 3 ≤ sizeLine; decide), fun ta hta => ?_⟩
      have c7a : Dq K Ha (.ref t6) (.tuple [.str "call", .str x6, .tuple [.str "minus", .str x5, .tuple [.str "call", .tuple [.str "fun", .str x5, .int 1], .tuple [.str "minus", .str x5, .int (1 + d3)]]]]) := r9.dq fa (r8.dq f9 (dp_kps k8 dq6))
      have da := dq_new3 (.str wd) (.int (1 + d9)) c7a hta
      have ka : Kps Ha (upd Ha ta (.tup [.str wd, .int (1 + d9), (.ref t6)])) := Kps.new hta
      dsimp only
      generalize upd Ha ta (.tup [.str wd, .int (1 + d9), (.ref t6)]) = Hb at da ka
      have rb := ra.kps ka
      have wa : Wf pool 6 (.tuple [.str wd, .int (1 + d9), (.tuple [.str "call", .str x6, .tuple [.str "minus", .str x5, .tuple [.str "call", .tuple [.str "fun", .str x5, .int 1], .tuple [.str "minus", .str x5, .int (1 + d3)]]]])]) := .op hwd (wint (small200 (by omega) (by omega))) w7
      -- functions.append(..)
      have hFb : Hb F = some (.lst us) := (f01.trans (kall.fwd S) |>.trans (k8.fwd S) |>.trans f9 |>.trans fa |>.trans (ka.fwd S)) _ _ hF0 nSF.symm
      refine ⟨_, rfl, .inl ⟨rfl, _, .inl (.inl hFb)⟩, ?_⟩
      obtain ⟨xk, ek, mk⟩ := rb.g.at (d := 0 + (i : Int)) (by omega) (by omega)
      refine ⟨_, rfl, _, rfl, Pa, _, _, _, rfl, rfl, .inl (.inl rb.g.pl), ek, _, rfl, _, rfl, (by show 3 ≤ sizeLine; decide), fun tb htb => ?_⟩
      have db := dq_new3 (K := K) (.str "less") (.str x5) (.int 1) htb
      have da1 := dp_kps (Kps.new (o := .tup [.str "less", .str x5, .int 1]) htb) da
      have kb : Kps Hb (upd Hb tb (.tup [.str "less", .str x5, .int 1])) := Kps.new htb
      generalize upd Hb tb (.tup [.str "less", .str x5, .int 1]) = Hc at db da1 kb
      have rc := rb.kps kb
      refine ⟨_, rfl, S, 9, rfl, rc.g.st, by decide, by decide, fun dd Hd dd0 dd1 fd' std => ?_⟩
      have rd := rc.next fd' std
      have dbd := rc.dq fd' db
      have dad := rc.dq fd' da1
      refine ⟨_, rfl, (by show 4 ≤ sizeLine; decide), fun te hte => ?_⟩
      have de := dq_new4 (K := K) (.str "if") dbd (.int dd) dad hte
      have ke : Kps Hd (upd Hd te (.tup [.str "if", .ref tb, .int dd, .ref ta])) := Kps.new hte
      generalize upd Hd te (.tup [.str "if", .ref tb, .int dd, .ref ta]) = He at de ke
      have re := rd.kps ke
      have we : Wf pool 7 (.tuple [.str "if", .tuple [.str "less", .str x5, .int 1], .int dd, .tuple [.str wd, .int (1 + d9), (.tuple [.str "call", .str x6, .tuple [.str "minus", .str x5, .tuple [.str "call", .tuple [.str "fun", .str x5, .int 1], .tuple [.str "minus", .str x5, .int (1 + d3)]]]])]]) :=
        .iff (.op (.inr (.inr (.inr rfl))) (wword (n := 4) (g.ok _ m5)) (wint (by decide))) (wint (small200 dd0 (by omega))) wa
      refine ⟨(by show 3 ≤ sizeLine; decide), fun tf htf => ?_⟩
      have df := dq_new3 (K := K) (.str xk) (.str x5) de htf
      have kf : Kps He (upd He tf (.tup [.str xk, .str x5, .ref te])) := Kps.new htf
      generalize upd He tf (.tup [.str xk, .str x5, .ref te]) = Hf at df kf
      have rf := re.kps kf
      have fall : Fwd S H0 Hf := f01.trans (kall.fwd S) |>.trans (k8.fwd S) |>.trans f9 |>.trans fa |>.trans (ka.fwd S) |>.trans (kb.fwd S) |>.trans fd' |>.trans (ke.fwd S) |>.trans (kf.fwd S)
      have hFf : Hf F = some (.lst us) := fall _ _ hF0 nSF.symm
      refine ⟨F, us, .ref tf, rfl, rfl, hFf, Nat.lt_of_lt_of_le (show us.length < 10 by omega) (by decide), ?_⟩
      have nF : NoSeq Hf F := noSeqL hFf
      refine ⟨_, _, _, _, _, us ++ [.ref tf], fs ++ [(xk, x5, .tuple [.str "if", .tuple [.str "less", .str x5, .int 1], .int dd, .tuple [.str wd, .int (1 + d9), (.tuple [.str "call", .str x6, .tuple [.str "minus", .str x5, .tuple [.str "call", .tuple [.str "fun", .str x5, .int 1], .tuple [.str "minus", .str x5, .int (1 + d3)]]]])]])], rfl, ⟨⟨?_, ?_, g.n6, g.ok⟩, rf.f.late hF⟩, upd_same, by rw [List.length_append, hl]; rfl, ?_, ?_, ?_⟩
      · obtain ⟨ns, h, o⟩ := rf.g.st
        exact ⟨ns, (upd_ne nSF).trans h, o⟩
      · exact (upd_ne nPF).trans rf.g.pl
      · rw [List.map_append]
        exact dqall_snoc (dps_fwd nF Fwd.own (dps_fwd r.g.st.ns fall dq)) (dp_fwd nF Fwd.own df)
      · intro f hf
        rcases List.mem_append.mp hf with hf | hf
        · exact hp f hf
        · rw [List.mem_singleton] at hf
          subst hf
          exact ⟨mk, m5⟩
      · intro f hf
        rcases List.mem_append.mp hf with hf | hf
        · exact hw f hf
        · rw [List.mem_singleton] at hf
          subst hf
          exact we
  · rintro σ H' ⟨o1, o2, o3, o4, o5, us, fs, rfl, r, hF0, hl, dq, hp, hw⟩
    have hfl : fs.length = us.length := by rw [dpall_len dq, List.length_map]
    refine ⟨_, rfl, ?_⟩
    refine ⟨F, us, rfl, .inl ⟨.inl (.inl hF0), fun l hl' => ?_⟩⟩
    have kl : Kps H' (upd H' l (.tup us)) := Kps.new hl'
    exact q _ fs _ (r.f.trans (kl.fwd S)) (r.kps kl).g.st (.tup (.inl (.inl upd_same)) (dps_kps kl dq)) hp hw (by omega)
end
end FW

set_option Elab.async false
set_option linter.all false
set_option maxRecDepth 100000
set_option maxHeartbeats 8000000
/-! GD: the law's draws: nests, the law. -/
namespace FW
open PySem PySem.Spec PyProof.Rows L2

section
variable {P : Program} {w : World} {K : PySem.W.Frag} {mg : Str → Option Value} {base : Heap} {f : Addr} {fd : FuncData}
abbrev s__law_nested : Stmt := top 36
def N__law_nested : List Str := ["_law_state", "_law_pool", "_law_phrase", "_law_k"]
theorem sc__law_nested : FnScope N__law_nested ["_law_state", "_law_pool"] (defScope s__law_nested) := ⟨rfl, rfl, rfl, by decide +kernel, rfl, by decide +kernel, by decide +kernel⟩
def spNested (K : PySem.W.Frag) : Sp := fun vs H Q _ => ∃ (S P : Addr) (pool : List Str), vs = [.ref S, .ref P] ∧ GAt H S P pool ∧
  ∀ (v : V) (ph : PyData) (H' : Hp), Fwd S H H' → StAt H' S → Dq K H' v (mainP ph) → Wf pool 20 ph → Q v H'
theorem GAt.p0 {H : Hp} {S P : Addr} {pool : List Str} (g : GAt H S P pool) : ∃ x0 x4, (pool.map V.str)[0]? = some (.str x0) ∧ (pool.map V.str)[4]? = some (.str x4) ∧ x0 ∈ pool ∧ x4 ∈ pool := by
  have n6 := g.n6
  match pool, n6 with
  | [a, b, c, d, e, f], _ => exact ⟨a, e, rfl, rfl, by simp, by simp⟩
theorem ok__law_nested (F : Fun K "_law_nested" "_law_nested" s__law_nested f fd) (T : LT mg) (c__law_next : CalN P w K mg base CX0 1 "_law_next" ["_law_state", "_law_many"] spNext) :
    FnN P w K mg base CX0 2 f fd ["_law_state", "_law_pool"] (spNested K) := by
  refine okN0 F sc__law_nested (fun vs H Q E h => ?_) (fun cdv A' outer s H vs Q E hr h => ?_)
  · obtain ⟨_, _, _, rfl, _⟩ := h
    rfl
  obtain ⟨S, Pa, pool, rfl, g, q⟩ := h
  refine ⟨_, (pss_cons (ps_set (i := 2) sc__law_nested.nd rfl (Or.inl rfl) (pe_tup (pa_cons pe_str (pa_cons (pe_tup (pa_cons pe_str (pa_cons pe_int (pa_cons (pe_ix ix_list (pv 1) pe_int (fun _ _ => rfl)) pa_nil)))) (pa_cons (pe_tup (pa_cons pe_str (pa_cons (pe_ix ix_list (pv 1) pe_int (fun _ _ => rfl)) (pa_cons (pe_tup (pa_cons pe_str (pa_cons (pe_ix ix_list (pv 1) pe_int (fun _ _ => rfl)) (pa_cons pe_int pa_nil)))) pa_nil)))) (pa_cons pe_int pa_nil))))))
  (pss_cons (ps_for PassesOwn.never rfl (pi_range1 rfl T.z_range (pa_cons pe_int pa_nil)) (pg_name (i := 3) sc__law_nested.nd rfl (.inl rfl))
    (pss_one (ps_set (i := 2) sc__law_nested.nd rfl (Or.inl rfl) (pe_tup (pa_cons pe_str (pa_cons pe_int (pa_cons (pv 2) pa_nil)))))))
  (pss_one (ps_ret (pe_tup (pa_cons (pe_tup (pa_cons pe_str (pa_cons (pe_tup (pa_cons pe_str (pa_cons (pe_tup (pa_cons (pe_tup (pa_cons (pe_ix ix_list (pv 1) pe_int (fun _ _ => rfl)) (pa_cons (pe_ix ix_list (pv 1) pe_int (fun _ _ => rfl)) (pa_cons (pv 2) pa_nil)))) pa_nil)) (pa_cons (pe_tup (pa_cons pe_str (pa_cons (pe_ix ix_list (pv 1) pe_int (fun _ _ => rfl)) (pa_cons (pe_op op_add pe_int (pe_cN c__law_next hr (by rfl) pass0 (pa_cons (pv 0) (pa_cons pe_int pa_nil)))) pa_nil)))) pa_nil)))) pa_nil))) pa_nil)))))), ?_⟩
  obtain ⟨x0, x4, e0, e4, m0, m4⟩ := g.p0
  refine ⟨_, rfl, Pa, _, _, _, rfl, rfl, .inl (.inl g.pl), at_of (j := 4) rfl e4, (by show 3 ≤ sizeLine; decide), fun t1 ht1 => ?_⟩
  have d1 := dq_new3 (K := K) (.str "less") (.int 0) (.str x4) ht1
  have k1 : Kps H (upd H t1 (.tup [.str "less", .int 0, .str x4])) := Kps.new ht1
  generalize upd H t1 (.tup [.str "less", .int 0, .str x4]) = H1 at d1 k1
  have g1 := g.kps k1
  refine ⟨_, rfl, Pa, _, _, _, rfl, rfl, .inl (.inl g1.pl), at_of (j := 0) rfl e0, _, rfl, Pa, _, _, _, rfl, rfl, .inl (.inl g1.pl), at_of (j := 4) rfl e4, (by show 3 ≤ sizeLine; decide), fun t2 ht2 => ?_⟩
  have d2 := dq_new3 (K := K) (.str "minus") (.str x4) (.int 1) ht2
  have d12 := dp_kps (Kps.new (o := .tup [.str "minus", .str x4, .int 1]) ht2) d1
  have k2 : Kps H1 (upd H1 t2 (.tup [.str "minus", .str x4, .int 1])) := Kps.new ht2
  generalize upd H1 t2 (.tup [.str "minus", .str x4, .int 1]) = H2 at d2 d12 k2
  refine ⟨(by show 3 ≤ sizeLine; decide), fun t3 ht3 => ?_⟩
  have d3 := dq_new3 (K := K) (.str "call") (.str x0) d2 ht3
  have d13 := dp_kps (Kps.new (o := .tup [.str "call", .str x0, .ref t2]) ht3) d12
  have k3 : Kps H2 (upd H2 t3 (.tup [.str "call", .str x0, .ref t2])) := Kps.new ht3
  generalize upd H2 t3 (.tup [.str "call", .str x0, .ref t2]) = H3 at d3 d13 k3
  refine ⟨(by show 4 ≤ sizeLine; decide), fun t4 ht4 => ?_⟩
  have d4 := dq_new4 (K := K) (.str "if") d13 d3 (.int 3) ht4
  have k4 : Kps H3 (upd H3 t4 (.tup [.str "if", .ref t1, .ref t3, .int 3])) := Kps.new ht4
  generalize upd H3 t4 (.tup [.str "if", .ref t1, .ref t3, .int 3]) = H4 at d4 k4
  have k14 := k1.trans (k2.trans (k3.trans k4))
  have w4 : Wf pool 4 (.tuple [.str "if", .tuple [.str "less", .int 0, .str x4], .tuple [.str "call", .str x0, .tuple [.str "minus", .str x4, .int 1]], .int 3]) :=
    .iff (.op (.inr (.inr (.inr rfl))) (wint (by decide)) (wword (n := 1) (g.ok _ m4))) (.call (wword (n := 1) (g.ok _ m0)) (.op (.inr (.inl rfl)) (wword (n := 0) (g.ok _ m4)) (wint (by decide)))) (wint (by decide))
  refine ⟨15, rfl, by decide, by decide, for_range (lo := 0) (n := 15) (fun i σ H' => ∃ (v : V) (ph : PyData) (o : Option V), σ = [some (.ref S), some (.ref Pa), some v, o] ∧ Kps H H' ∧ Dq K H' v ph ∧ Wf pool (4 + i) ph)
    ⟨_, _, none, rfl, k14, d4, w4⟩ ?_ ?_⟩
  · rintro i σ H' hi ⟨v, ph, o, rfl, k, dq, wf⟩
    refine ⟨_, rfl, (by show 3 ≤ sizeLine; decide), fun t ht => ?_⟩
    exact ⟨_, _, _, rfl, k.trans (Kps.new ht), dq_new3 (K := K) (.str "plus") (.int 0) dq ht, .op (n := 4 + i) (.inl rfl) ((Wf.int (n := 3 + i) (by decide)).mono (by omega)) wf⟩
  · rintro σ H' ⟨v, ph, o, rfl, k, dq, wf⟩
    have g5 := g.kps k
    refine ⟨_, rfl, Pa, _, _, _, rfl, rfl, .inl (.inl g5.pl), at_of (j := 0) rfl e0, _, rfl, Pa, _, _, _, rfl, rfl, .inl (.inl g5.pl), at_of (j := 4) rfl e4, _, rfl, (by show 3 ≤ sizeLine; decide), fun t5 ht5 => ?_⟩
    have d5 := dq_new3 (K := K) (.str x0) (.str x4) dq ht5
    have k5 : Kps H' (upd H' t5 (.tup [.str x0, .str x4, v])) := Kps.new ht5
    generalize upd H' t5 (.tup [.str x0, .str x4, v]) = H5 at d5 k5
    refine ⟨(by show 1 ≤ sizeLine; decide), fun t6 ht6 => ?_⟩
    have d6 := dq_new1 (K := K) d5 ht6
    have k6 : Kps H5 (upd H5 t6 (.tup [.ref t5])) := Kps.new ht6
    generalize upd H5 t6 (.tup [.ref t5]) = H6 at d6 k6
    have g6 := (g5.kps k5).kps k6
    refine ⟨_, rfl, Pa, _, _, _, rfl, rfl, .inl (.inl g6.pl), at_of (j := 0) rfl e0, _, rfl, S, 4, rfl, g6.st, by decide, by decide, fun dd H7 dd0 dd1 f7 st7 => ?_⟩
    have d67 := dp_fwd g6.st.ns f7 d6
    refine ⟨_, _, rfl, rfl, (by show 3 ≤ sizeLine; decide), fun t8 ht8 => ?_⟩
    have d8 := dq_new3 (K := K) (.str "call") (.str x0) (.int (8 + dd)) ht8
    have d68 := dp_kps (Kps.new (o := .tup [.str "call", .str x0, .int (8 + dd)]) ht8) d67
    have k8 : Kps H7 (upd H7 t8 (.tup [.str "call", .str x0, .int (8 + dd)])) := Kps.new ht8
    dsimp only
    generalize upd H7 t8 (.tup [.str "call", .str x0, .int (8 + dd)]) = H8 at d8 d68 k8
    refine ⟨(by show 3 ≤ sizeLine; decide), fun t9 ht9 => ?_⟩
    have d9 := dq_new3 (K := K) (.str "ring") d68 d8 ht9
    have k9 : Kps H8 (upd H8 t9 (.tup [.str "ring", .ref t6, .ref t8])) := Kps.new ht9
    generalize upd H8 t9 (.tup [.str "ring", .ref t6, .ref t8]) = H9 at d9 k9
    refine ⟨(by show 2 ≤ sizeLine; decide), fun ta hta => ?_⟩
    have da := dq_new2 (K := K) (.str "main") d9 hta
    have ka : Kps H9 (upd H9 ta (.tup [.str "main", .ref t9])) := Kps.new hta
    generalize upd H9 ta (.tup [.str "main", .ref t9]) = Ha at da ka
    refine ⟨(by show 1 ≤ sizeLine; decide), fun tb htb => ?_⟩
    have db := dq_new1 (K := K) da htb
    have kb : Kps Ha (upd Ha tb (.tup [.ref ta])) := Kps.new htb
    generalize upd Ha tb (.tup [.ref ta]) = Hb at db kb
    have kall := k8.trans (k9.trans (ka.trans kb))
    have wr : Wf pool 20 (.tuple [.str "ring", .tuple ([(x0, x4, ph)].map fnD), .tuple [.str "call", .str x0, .int (8 + dd)]]) :=
      .ring (fun f hf => by rw [List.mem_singleton] at hf; subst hf; exact ⟨m0, m4⟩) (fun f hf => by rw [List.mem_singleton] at hf; subst hf; exact wf) (by show 1 ≤ 100; decide) (.call (wword (n := 17) (g.ok _ m0)) (wint (small200 (by omega) (by omega))))
    exact q _ _ _ ((((k.trans (k5.trans k6)).fwd S).trans f7).trans (kall.fwd S)) (st7.kps kall) db wr
end
end FW

set_option Elab.async false
set_option linter.all false
set_option maxRecDepth 100000
set_option maxHeartbeats 8000000
/-! GE: the law. -/
namespace FW
open PySem PySem.Spec PyProof.Rows L2

section
variable {P : Program} {w : World} {K : PySem.W.Frag} {mg : Str → Option Value} {base : Heap} {f : Addr} {fd : FuncData}
theorem FnN.ex {CX : CXT} {n : Nat} {ps : List Str} {α : Type} {p : α → Prop} {sp : α → Sp} (F : ∀ x, p x → FnN P w K mg base CX n f fd ps (sp x)) : FnN P w K mg base CX n f fd ps (fun vs H Q E => ∃ x, p x ∧ sp x vs H Q E) :=
  ⟨fun vs H Q E ⟨x, hx, h⟩ => (F x hx).len vs H Q E h, fun A outer s H args us vs Q E hr e0 hb r ⟨x, hx, h⟩ => (F x hx).run A outer s H args us vs Q E hr e0 hb r h⟩
def spRan2 (K : PySem.W.Frag) (pool : List Str) : Sp := fun vs H Q _ => ∃ (v : V) (ph : PyData) (n : Int), vs = [v, .int n] ∧ Dq K H v (mainP ph) ∧ Wf pool 20 ph ∧
  ∀ H' T x y b, Kps H H' → H' T = some (.tup [x, y, .int b]) → Q (.ref T) H'
theorem spRan2_of {pool : List Str} (vs : List V) (H : Hp) (Q : VK) (E : XK) (h : spRan2 K pool vs H Q E) : spRan K pool 20 vs H Q E := by
  obtain ⟨v, ph, n, rfl, h1, h2, q⟩ := h
  refine ⟨v, ph, n, rfl, h1, h2, ?_⟩
  cases resO (ranO 20 n ph) with
  | inr i => exact fun H' T k e => q H' T _ _ _ k e
  | inl g => exact fun H' T x b k e => q H' T _ _ _ k e
def spRanA (K : PySem.W.Frag) : Sp := fun vs H Q E => ∃ pool : List Str, pool.length ≤ 1000 ∧ spRan2 K pool vs H Q E
def spRightA (K : PySem.W.Frag) : Sp := fun vs H Q E => ∃ pool : List Str, pool.length ≤ 1000 ∧ spRight K pool 20 vs H Q E
def spLaw (K : PySem.W.Frag) : Sp := fun vs H Q _ => ∃ (X : Addr) (cells : List Int), vs = [.ref X] ∧ SqL K H X (cells.map V.int) ∧ cells.length ≤ 63 ∧ ∀ H', Q (.bl true) H'

abbrev s_law : Stmt := top 37
def N_law : List Str := ["_law_script", "_law_state", "_law_pool", "_law_many", "_law_functions", "_law_last", "_law_turn", "_law_phrase", "_law_program", "_law_begun", "_law_most"]
theorem sc_law : FnScope N_law ["_law_script"] (defScope s_law) := ⟨rfl, rfl, rfl, by decide +kernel, rfl, by decide +kernel, by decide +kernel⟩
theorem ok_law {lv : Nat} (F : Fun K "law" "law" s_law f fd) (T : LT mg) (hlv : 2 ≤ lv)
    (c__law_next : CalN P w K mg base CX0 1 "_law_next" ["_law_state", "_law_many"] spNext)
    (c__law_drawn : CalN P w K mg base CX0 1 "_law_drawn" ["_law_script"] (spDrawn K))
    (c__law_names : CalN P w K mg base CX0 2 "_law_names" ["_law_state", "_law_many"] spNames)
    (c__law_ring : CalN P w K mg base CX0 2 "_law_ring" ["_law_state", "_law_pool", "_law_many"] (spRing K))
    (c__law_nested : CalN P w K mg base CX0 2 "_law_nested" ["_law_state", "_law_pool"] (spNested K))
    (c__law_ran : CalN P w K mg base CX0 lv "_law_ran" ["_law_program", "_law_most"] (spRanA K))
    (c__law_right : CalN P w K mg base CX0 lv "_law_right" ["_law_program", "_law_most"] (spRightA K)) :
    FnN P w K mg base CX0 (lv + 1) f fd ["_law_script"] (spLaw K) := by
  refine okN0 F sc_law (fun vs H Q E h => ?_) (fun cdv A' outer s H vs Q E hr h => ?_)
  · obtain ⟨_, _, rfl, _⟩ := h
    rfl
  obtain ⟨X, cells, rfl, hX, hcl, q⟩ := h
  refine ⟨_, (pss_cons (ps_set (i := 1) sc_law.nd rfl (Or.inl rfl) (pe_cN c__law_drawn hr (by rfl) pass0 (pa_cons (pv 0) pa_nil)))
  (pss_cons (ps_set (i := 2) sc_law.nd rfl (Or.inl rfl) (pe_cN c__law_names hr (by rfl) pass0 (pa_cons (pv 1) (pa_cons pe_int pa_nil))))
  (pss_cons (ps_set (i := 3) sc_law.nd rfl (Or.inl rfl) (pe_op op_add pe_int (pe_cN c__law_next hr (by rfl) pass0 (pa_cons (pv 1) (pa_cons pe_int pa_nil)))))
  (pss_cons (ps_set (i := 4) sc_law.nd rfl (Or.inl rfl) (pe_cN c__law_ring hr (by rfl) pass0 (pa_cons (pv 1) (pa_cons (pv 2) (pa_cons (pv 3) pa_nil)))))
  (pss_cons (ps_set (i := 5) sc_law.nd rfl (Or.inl rfl) (pe_cN c__law_next hr (by rfl) pass0 (pa_cons (pv 1) (pa_cons pe_int pa_nil))))
  (pss_cons (ps_for PassesOwn.never rfl (pi_range1 rfl T.z_range (pa_cons (pe_op op_add pe_int (pe_cN c__law_next hr (by rfl) pass0 (pa_cons (pv 1) (pa_cons pe_int pa_nil)))) pa_nil)) (pg_name (i := 6) sc_law.nd rfl (.inl rfl))
    (pss_one (ps_set (i := 5) sc_law.nd rfl (Or.inl rfl) (pe_tup (pa_cons pe_str (pa_cons (pv 5) (pa_cons (pe_tup (pa_cons pe_str (pa_cons (pe_ix ix_list (pv 2) (pe_cN c__law_next hr (by rfl) pass0 (pa_cons (pv 1) (pa_cons (pv 3) pa_nil))) (fun _ _ => rfl)) (pa_cons (pe_cN c__law_next hr (by rfl) pass0 (pa_cons (pv 1) (pa_cons pe_int pa_nil))) pa_nil)))) pa_nil)))))))
  (pss_cons (ps_set (i := 7) sc_law.nd rfl (Or.inl rfl) (pe_tup (pa_cons pe_str (pa_cons (pv 4) (pa_cons (pv 5) pa_nil)))))
  (pss_cons (ps_if (pt_cmpR op_eq (pe_cN c__law_next hr (by rfl) pass0 (pa_cons (pv 1) (pa_cons pe_int pa_nil))) pe_int (nomark _))
    (pss_one (ps_set (i := 7) sc_law.nd rfl (Or.inl rfl) (pe_tup (pa_cons pe_str (pa_cons (pe_ix ix_list (pv 2) pe_int (fun _ _ => rfl)) (pa_cons pe_int (pa_cons (pe_tup (pa_cons pe_str (pa_cons (pv 7) (pa_cons (pe_ix ix_list (pv 2) pe_int (fun _ _ => rfl)) pa_nil)))) pa_nil)))))))
    pss_nil)
  (pss_cons (ps_set (i := 8) sc_law.nd rfl (Or.inl rfl) (pe_tup (pa_cons (pe_tup (pa_cons pe_str (pa_cons (pv 7) pa_nil))) pa_nil)))
  (pss_cons (ps_set (i := 9) sc_law.nd rfl (Or.inl rfl) (pe_ix ix_tup (pe_cN c__law_ran hr (by rfl) pass0 (pa_cons (pv 8) (pa_cons pe_int pa_nil))) pe_int (fun _ _ => rfl)))
  (pss_cons (ps_for PassesOwn.never rfl (pi_list (pe_lst (pa_cons (pv 9) (pa_cons (pe_op op_sub (pv 9) pe_int) (pa_cons pe_int (pa_cons (pe_op op_sub (pe_un un_neg pe_int) (pe_cN c__law_next hr (by rfl) pass0 (pa_cons (pv 1) (pa_cons pe_int pa_nil)))) pa_nil)))))) (pg_name (i := 10) sc_law.nd rfl (.inl rfl))
    (pss_one (ps_if (pt_not (pt_val (pe_cN c__law_right hr (by rfl) pass0 (pa_cons (pv 8) (pa_cons (pv 10) pa_nil)))))
      (pss_one (ps_ret pe_bl))
      pss_nil)))
  (pss_one (ps_ret (pe_cN c__law_right hr (by rfl) pass0 (pa_cons (pe_cN c__law_nested hr (by rfl) pass0 (pa_cons (pv 1) (pa_cons (pv 2) pa_nil))) (pa_cons pe_int pa_nil)))))))))))))))), ?_⟩
  refine ⟨_, rfl, X, cells, rfl, hX, hcl, fun S H1 nS k1 st1 => ?_⟩
  refine ⟨_, rfl, S, rfl, st1, fun Pa pool H2 nP f2 g2 => ?_⟩
  have hpool : pool.length ≤ 1000 := by
    have := g2.n6
    omega
  -- many = 1 + next(4)
  refine ⟨_, rfl, S, 4, rfl, g2.st, by decide, by decide, fun d3 H3 d30 d31 f3 st3 => ?_⟩
  have g3 := g2.step f3 st3
  refine ⟨_, _, rfl, rfl, ?_⟩
  -- functions
  refine ⟨_, rfl, _, rfl, _, rfl, S, Pa, 1 + d3, pool, rfl, g3, by omega, by omega, fun v4 fs H4 f4 st4 dq4 hp hw hfl => ?_⟩
  have g4 := g3.step f4 st4
  -- last = next(9)
  refine ⟨_, rfl, S, 9, rfl, g4.st, by decide, by decide, fun d5 H5 d50 d51 f5 st5 => ?_⟩
  have g5 := g4.step f5 st5
  have dq5 := dp_fwd g4.st.ns f5 dq4
  -- for turn in range(1 + next(5))
  refine ⟨_, rfl, S, 5, rfl, g5.st, by decide, by decide, fun d6 H6 d60 d61 f6 st6 => ?_⟩
  have g6 := g5.step f6 st6
  have dq6 := dp_fwd g5.st.ns f6 dq5
  refine ⟨_, _, rfl, rfl, 1 + d6, rfl, by omega, by omega, for_range (lo := 0) (n := (1 + d6).toNat) (fun i σ H' => ∃ (v5 : V) (c5 : PyData) (o6 : Option V), σ = [some (.ref X), some (.ref S), some (.ref Pa), some (.int (1 + d3)), some v4, some v5, o6, none, none, none, none] ∧
      GAt H' S Pa pool ∧ Dq K H' v4 (.tuple (fs.map fnD)) ∧ Dq K H' v5 c5 ∧ Wf pool (2 + i) c5)
    ⟨_, _, none, rfl, g6, dq6, .int d5, wint (n := 1) (small200 d50 (by omega))⟩ ?_ ?_⟩
  · rintro i σ H' hi ⟨v5, c5, o6, rfl, g, dq4, dq5, w5⟩
    refine ⟨_, rfl, _, rfl, _, rfl, _, rfl, S, 1 + d3, rfl, g.st, by omega, by omega, fun d7 H7 d70 d71 f7 st7 => ?_⟩
    have g7 := g.step f7 st7
    obtain ⟨x7, e7, m7⟩ := g7.at (d := d7) d70 (by omega)
    refine ⟨Pa, _, _, _, rfl, rfl, .inl (.inl g7.pl), e7, _, rfl, S, 13, rfl, g7.st, by decide, by decide, fun d8 H8 d80 d81 f8 st8 => ?_⟩
    have g8 := g7.step f8 st8
    have a4 := dp_fwd g7.st.ns f8 (dp_fwd g.st.ns f7 dq4)
    have a5 := dp_fwd g7.st.ns f8 (dp_fwd g.st.ns f7 dq5)
    refine ⟨(by show 3 ≤ sizeLine; decide), fun t1 ht1 => ?_⟩
    have b1 := dq_new3 (K := K) (.str "call") (.str x7) (.int d8) ht1
    have k1 : Kps H8 (upd H8 t1 (.tup [.str "call", .str x7, .int d8])) := Kps.new ht1
    generalize upd H8 t1 (.tup [.str "call", .str x7, .int d8]) = H9 at b1 k1
    refine ⟨(by show 3 ≤ sizeLine; decide), fun t2 ht2 => ?_⟩
    have b2 := dq_new3 (K := K) (.str "plus") (dp_kps k1 a5) b1 ht2
    have k2 : Kps H9 (upd H9 t2 (.tup [.str "plus", v5, .ref t1])) := Kps.new ht2
    refine ⟨_, _, _, rfl, (g8.kps k1).kps k2, dp_kps k2 (dp_kps k1 a4), b2, ?_⟩
    exact .op (n := 2 + i) (.inl rfl) w5 ((Wf.call (wword (n := 0) (g.ok _ m7)) (wint (n := 0) (small200 d80 (by omega)))).mono (by omega))
  rintro σ H' ⟨v5, c5, o6, rfl, g, dq4, dq5, w5⟩
  -- phrase = ('ring', functions, last)
  refine ⟨_, rfl, _, rfl, (by show 3 ≤ sizeLine; decide), fun t1 ht1 => ?_⟩
  have b1 := dq_new3 (K := K) (.str "ring") dq4 dq5 ht1
  have kr : Kps H' (upd H' t1 (.tup [.str "ring", v4, v5])) := Kps.new ht1
  generalize upd H' t1 (.tup [.str "ring", v4, v5]) = H7 at b1 kr
  have g7 := g.kps kr
  have w7 : Wf pool 8 (.tuple [.str "ring", .tuple (fs.map fnD), c5]) := .ring hp hw (by omega) (w5.mono (by omega))
  -- if next(2) == 0
  refine ⟨_, rfl, S, 2, rfl, g7.st, by decide, by decide, fun d8 H8 d80 d81 f8 st8 => ?_⟩
  have g8 := g7.step f8 st8
  have b8 := dp_fwd g7.st.ns f8 b1
  refine ⟨rfl, _, rfl, ?_⟩
  cases hb : decide (V.int d8 = V.int 0) with
  | false =>
    refine iteFr rfl ?_
    have w20 := w7.mono (show 8 ≤ 20 by decide)
    -- program = (('main', phrase),)
    refine ⟨_, rfl, (by show 2 ≤ sizeLine; decide), fun ta hta => ?_⟩
    have da := dq_new2 (K := K) (.str "main") b8 hta
    have ka : Kps H8 (upd H8 ta (.tup [.str "main", (.ref t1)])) := Kps.new hta
    generalize upd H8 ta (.tup [.str "main", (.ref t1)]) = Ha at da ka
    refine ⟨(by show 1 ≤ sizeLine; decide), fun tb htb => ?_⟩
    have db := dq_new1 (K := K) da htb
    have kb : Kps Ha (upd Ha tb (.tup [.ref ta])) := Kps.new htb
    generalize upd Ha tb (.tup [.ref ta]) = Hb at db kb
    have gb := (g8.kps ka).kps kb
    -- begun = ran(program, 300)[2]
    refine ⟨_, rfl, pool, hpool, _, (.tuple [.str "ring", .tuple (fs.map fnD), c5]), 300, rfl, db, w20, fun Hc Tc x y b kc hc => ?_⟩
    have gc := gb.kps kc
    have dc := dp_kps kc db
    refine ⟨Tc, _, _, _, rfl, rfl, .inl (.inl hc), at_of (j := 2) rfl rfl, ?_⟩
    -- for most in [..]
    refine ⟨_, rfl, _, rfl, _, _, rfl, rfl, 1, rfl, _, rfl, S, 5, rfl, gc.st, by decide, by decide, fun dd Hd dd0 dd1 fd' std => ?_⟩
    have gd := gc.step fd' std
    have dd' := dp_fwd gc.st.ns fd' dc
    refine ⟨_, _, rfl, rfl, (by show 4 ≤ sizeLine; decide), fun L hL => ?_⟩
    have ke : Kps Hd (upd Hd L (.lst [.int b, .int (b - 1), .int 300, .int (-1 - dd)])) := Kps.new hL
    have he : (upd Hd L (.lst [.int b, .int (b - 1), .int 300, .int (-1 - dd)])) L = some (.lst ([b, b - 1, 300, -1 - dd].map V.int)) := upd_same
    obtain ⟨He, eHe⟩ : ∃ He, upd Hd L (.lst [.int b, .int (b - 1), .int 300, .int (-1 - dd)]) = He := ⟨_, rfl⟩
    have kee : Kps He (upd Hd L (.lst [.int b, .int (b - 1), .int 300, .int (-1 - dd)])) := by
      rw [eHe]
      exact Kps.refl _
    have he' := he
    rw [eHe] at ke he
    have ge := gd.kps ke
    have de := dp_kps ke dd'
    refine ⟨L, rfl, ⟨_, .inl (.inl he')⟩, for_list (K := K) (a := L) (xs := [b, b - 1, 300, -1 - dd].map V.int) (fun i σ H' => ∃ o, σ = [some (.ref X), some (.ref S), some (.ref Pa), some (.int (1 + d3)), some v4, some v5, o6, some (.ref t1), some (.ref tb), some (.int b), o] ∧ Kps He H')
      ⟨_, rfl, kee⟩ ?_ ?_ ?_⟩
    · rintro i σ H' _ ⟨_, _, k⟩
      exact .inl (.inl (k _ _ he))
    · rintro i z σ H' hi ⟨o, rfl, k⟩
      rw [List.getElem?_map] at hi
      obtain ⟨n, hn, rfl⟩ := Option.map_eq_some_iff.mp hi
      refine ⟨_, rfl, _, rfl, pool, hpool, _, (.tuple [.str "ring", .tuple (fs.map fnD), c5]), n, rfl, dp_kps k de, w20, fun H2 k2 => ?_⟩
      refine ⟨_, rfl, iteFr rfl ?_⟩
      exact ⟨_, rfl, k.trans k2⟩
    · rintro σ H' ⟨o, rfl, k⟩
      refine ⟨_, rfl, _, rfl, S, Pa, pool, rfl, ge.kps k, fun vn phn Hn fn stn dn wn => ?_⟩
      exact ⟨pool, hpool, vn, phn, 300, rfl, dn, wn, fun H2 k2 => q H2⟩
  | true =>
    refine iteTr rfl ?_
    obtain ⟨x0, x4, e0, e4, m0, m4⟩ := g8.p0
    refine ⟨_, rfl, Pa, _, _, _, rfl, rfl, .inl (.inl g8.pl), at_of (j := 0) rfl e0, _, rfl, _, rfl, Pa, _, _, _, rfl, rfl, .inl (.inl g8.pl), at_of (j := 0) rfl e0, (by show 3 ≤ sizeLine; decide), fun t2 ht2 => ?_⟩
    have b2 := dq_new3 (K := K) (.str "plus") b8 (.str x0) ht2
    have kr2 : Kps H8 (upd H8 t2 (.tup [.str "plus", .ref t1, .str x0])) := Kps.new ht2
    generalize upd H8 t2 (.tup [.str "plus", .ref t1, .str x0]) = H9 at b2 kr2
    refine ⟨(by show 4 ≤ sizeLine; decide), fun t3 ht3 => ?_⟩
    have b3 := dq_new4 (K := K) (.str "let") (.str x0) (.int 7) b2 ht3
    have kr3 : Kps H9 (upd H9 t3 (.tup [.str "let", .str x0, .int 7, .ref t2])) := Kps.new ht3
    generalize upd H9 t3 (.tup [.str "let", .str x0, .int 7, .ref t2]) = H10 at b3 kr3
    have g10 := (g8.kps kr2).kps kr3
    have w20 : Wf pool 20 (.tuple [.str "let", .str x0, .int 7, .tuple [.str "plus", .tuple [.str "ring", .tuple (fs.map fnD), c5], .str x0]]) := .lett m0 (wint (n := 18) (by decide)) (.op (.inl rfl) (w7.mono (by decide)) (wword (n := 17) (g.ok _ m0)))
    -- program = (('main', phrase),)
    refine ⟨_, rfl, (by show 2 ≤ sizeLine; decide), fun ta hta => ?_⟩
    have da := dq_new2 (K := K) (.str "main") b3 hta
    have ka : Kps H10 (upd H10 ta (.tup [.str "main", (.ref t3)])) := Kps.new hta
    generalize upd H10 ta (.tup [.str "main", (.ref t3)]) = Ha at da ka
    refine ⟨(by show 1 ≤ sizeLine; decide), fun tb htb => ?_⟩
    have db := dq_new1 (K := K) da htb
    have kb : Kps Ha (upd Ha tb (.tup [.ref ta])) := Kps.new htb
    generalize upd Ha tb (.tup [.ref ta]) = Hb at db kb
    have gb := (g10.kps ka).kps kb
    -- begun = ran(program, 300)[2]
    refine ⟨_, rfl, pool, hpool, _, (.tuple [.str "let", .str x0, .int 7, .tuple [.str "plus", .tuple [.str "ring", .tuple (fs.map fnD), c5], .str x0]]), 300, rfl, db, w20, fun Hc Tc x y b kc hc => ?_⟩
    have gc := gb.kps kc
    have dc := dp_kps kc db
    refine ⟨Tc, _, _, _, rfl, rfl, .inl (.inl hc), at_of (j := 2) rfl rfl, ?_⟩
    -- for most in [..]
    refine ⟨_, rfl, _, rfl, _, _, rfl, rfl, 1, rfl, _, rfl, S, 5, rfl, gc.st, by decide, by decide, fun dd Hd dd0 dd1 fd' std => ?_⟩
    have gd := gc.step fd' std
    have dd' := dp_fwd gc.st.ns fd' dc
    refine ⟨_, _, rfl, rfl, (by show 4 ≤ sizeLine; decide), fun L hL => ?_⟩
    have ke : Kps Hd (upd Hd L (.lst [.int b, .int (b - 1), .int 300, .int (-1 - dd)])) := Kps.new hL
    have he : (upd Hd L (.lst [.int b, .int (b - 1), .int 300, .int (-1 - dd)])) L = some (.lst ([b, b - 1, 300, -1 - dd].map V.int)) := upd_same
    obtain ⟨He, eHe⟩ : ∃ He, upd Hd L (.lst [.int b, .int (b - 1), .int 300, .int (-1 - dd)]) = He := ⟨_, rfl⟩
    have kee : Kps He (upd Hd L (.lst [.int b, .int (b - 1), .int 300, .int (-1 - dd)])) := by
      rw [eHe]
      exact Kps.refl _
    have he' := he
    rw [eHe] at ke he
    have ge := gd.kps ke
    have de := dp_kps ke dd'
    refine ⟨L, rfl, ⟨_, .inl (.inl he')⟩, for_list (K := K) (a := L) (xs := [b, b - 1, 300, -1 - dd].map V.int) (fun i σ H' => ∃ o, σ = [some (.ref X), some (.ref S), some (.ref Pa), some (.int (1 + d3)), some v4, some v5, o6, some (.ref t3), some (.ref tb), some (.int b), o] ∧ Kps He H')
      ⟨_, rfl, kee⟩ ?_ ?_ ?_⟩
    · rintro i σ H' _ ⟨_, _, k⟩
      exact .inl (.inl (k _ _ he))
    · rintro i z σ H' hi ⟨o, rfl, k⟩
      rw [List.getElem?_map] at hi
      obtain ⟨n, hn, rfl⟩ := Option.map_eq_some_iff.mp hi
      refine ⟨_, rfl, _, rfl, pool, hpool, _, (.tuple [.str "let", .str x0, .int 7, .tuple [.str "plus", .tuple [.str "ring", .tuple (fs.map fnD), c5], .str x0]]), n, rfl, dp_kps k de, w20, fun H2 k2 => ?_⟩
      refine ⟨_, rfl, iteFr rfl ?_⟩
      exact ⟨_, rfl, k.trans k2⟩
    · rintro σ H' ⟨o, rfl, k⟩
      refine ⟨_, rfl, _, rfl, S, Pa, pool, rfl, ge.kps k, fun vn phn Hn fn stn dn wn => ?_⟩
      exact ⟨pool, hpool, vn, phn, 300, rfl, dn, wn, fun H2 k2 => q H2⟩
end
end FW

set_option Elab.async false
set_option linter.all false
set_option maxRecDepth 100000
set_option maxHeartbeats 8000000
/-! GF: what the head is to tell, and what follows. -/
namespace FW
open PySem PySem.Spec PyProof.Rows L2

def d_Function___init__ : He.DefD := ⟨("Function", some "__init__"), "__init__", "Function.__init__", defArgs (inClass (top 9) 0), defBody (inClass (top 9) 0), defScope (inClass (top 9) 0), [], []⟩
def d_field_spots : He.DefD := ⟨("field_spots", none), "field_spots", "field_spots", defArgs (top 10), defBody (top 10), defScope (top 10), [], []⟩
def d_is_number : He.DefD := ⟨("is_number", none), "is_number", "is_number", defArgs (top 11), defBody (top 11), defScope (top 11), [], []⟩
def d_is_tag : He.DefD := ⟨("is_tag", none), "is_tag", "is_tag", defArgs (top 12), defBody (top 12), defScope (top 12), [], []⟩
def d_bounded : He.DefD := ⟨("bounded", none), "bounded", "bounded", defArgs (top 13), defBody (top 13), defScope (top 13), [], []⟩
def d_reckoned : He.DefD := ⟨("reckoned", none), "reckoned", "reckoned", defArgs (top 14), defBody (top 14), defScope (top 14), [], []⟩
def d_Runner___init__ : He.DefD := ⟨("Runner", some "__init__"), "__init__", "Runner.__init__", defArgs (inClass (top 15) 0), defBody (inClass (top 15) 0), defScope (inClass (top 15) 0), [], []⟩
def d_Runner_all_of : He.DefD := ⟨("Runner", some "all_of"), "all_of", "Runner.all_of", defArgs (inClass (top 15) 1), defBody (inClass (top 15) 1), defScope (inClass (top 15) 1), [], []⟩
def d_Runner_called : He.DefD := ⟨("Runner", some "called"), "called", "Runner.called", defArgs (inClass (top 15) 2), defBody (inClass (top 15) 2), defScope (inClass (top 15) 2), [], []⟩
def d_Runner_word_value : He.DefD := ⟨("Runner", some "word_value"), "word_value", "Runner.word_value", defArgs (inClass (top 15) 3), defBody (inClass (top 15) 3), defScope (inClass (top 15) 3), [], []⟩
def d_Runner_let_value : He.DefD := ⟨("Runner", some "let_value"), "let_value", "Runner.let_value", defArgs (inClass (top 15) 4), defBody (inClass (top 15) 4), defScope (inClass (top 15) 4), [], []⟩
def d_Runner_ring_value : He.DefD := ⟨("Runner", some "ring_value"), "ring_value", "Runner.ring_value", defArgs (inClass (top 15) 5), defBody (inClass (top 15) 5), defScope (inClass (top 15) 5), [], []⟩
def d_Runner_case_value : He.DefD := ⟨("Runner", some "case_value"), "case_value", "Runner.case_value", defArgs (inClass (top 15) 6), defBody (inClass (top 15) 6), defScope (inClass (top 15) 6), [], []⟩
def d_Runner_if_value : He.DefD := ⟨("Runner", some "if_value"), "if_value", "Runner.if_value", defArgs (inClass (top 15) 7), defBody (inClass (top 15) 7), defScope (inClass (top 15) 7), [], []⟩
def d_Runner_pick_value : He.DefD := ⟨("Runner", some "pick_value"), "pick_value", "Runner.pick_value", defArgs (inClass (top 15) 8), defBody (inClass (top 15) 8), defScope (inClass (top 15) 8), [], []⟩
def d_Runner_bound_value : He.DefD := ⟨("Runner", some "bound_value"), "bound_value", "Runner.bound_value", defArgs (inClass (top 15) 9), defBody (inClass (top 15) 9), defScope (inClass (top 15) 9), [], []⟩
def d_Runner_value : He.DefD := ⟨("Runner", some "value"), "value", "Runner.value", defArgs (inClass (top 15) 10), defBody (inClass (top 15) 10), defScope (inClass (top 15) 10), [], []⟩
def d_Runner_worked_vals : He.DefD := ⟨("Runner", some "worked_vals"), "worked_vals", "Runner.worked_vals", defArgs (inClass (top 15) 11), defBody (inClass (top 15) 11), defScope (inClass (top 15) 11), [], []⟩
def d_given_paths : He.DefD := ⟨("given_paths", none), "given_paths", "given_paths", defArgs (top 16), defBody (top 16), defScope (top 16), [], []⟩
def d_put_part : He.DefD := ⟨("put_part", none), "put_part", "put_part", defArgs (top 17), defBody (top 17), defScope (top 17), [], []⟩
def d_declared : He.DefD := ⟨("declared", none), "declared", "declared", defArgs (top 18), defBody (top 18), defScope (top 18), [], []⟩
def d_run : He.DefD := ⟨("run", none), "run", "run", defArgs (top 19), defBody (top 19), defScope (top 19), [.int 300], []⟩
def d__law_next : He.DefD := ⟨("_law_next", none), "_law_next", "_law_next", defArgs (top 21), defBody (top 21), defScope (top 21), [], []⟩
def d__law_drawn : He.DefD := ⟨("_law_drawn", none), "_law_drawn", "_law_drawn", defArgs (top 22), defBody (top 22), defScope (top 22), [], []⟩
def d__law_names : He.DefD := ⟨("_law_names", none), "_law_names", "_law_names", defArgs (top 23), defBody (top 23), defScope (top 23), [], []⟩
def d__law_world : He.DefD := ⟨("_law_world", none), "_law_world", "_law_world", defArgs (top 24), defBody (top 24), defScope (top 24), [], []⟩
def d__law_fault : He.DefD := ⟨("_law_fault", none), "_law_fault", "_law_fault", defArgs (top 25), defBody (top 25), defScope (top 25), [], []⟩
def d__law_called : He.DefD := ⟨("_law_called", none), "_law_called", "_law_called", defArgs (top 26), defBody (top 26), defScope (top 26), [], []⟩
def d__law_reckoned : He.DefD := ⟨("_law_reckoned", none), "_law_reckoned", "_law_reckoned", defArgs (top 27), defBody (top 27), defScope (top 27), [], []⟩
def d__law_chosen : He.DefD := ⟨("_law_chosen", none), "_law_chosen", "_law_chosen", defArgs (top 28), defBody (top 28), defScope (top 28), [], []⟩
def d__law_bound : He.DefD := ⟨("_law_bound", none), "_law_bound", "_law_bound", defArgs (top 29), defBody (top 29), defScope (top 29), [], []⟩
def d__law_value : He.DefD := ⟨("_law_value", none), "_law_value", "_law_value", defArgs (top 30), defBody (top 30), defScope (top 30), [], []⟩
def d__law_ran : He.DefD := ⟨("_law_ran", none), "_law_ran", "_law_ran", defArgs (top 32), defBody (top 32), defScope (top 32), [], []⟩
def d__law_told : He.DefD := ⟨("_law_told", none), "_law_told", "_law_told", defArgs (top 33), defBody (top 33), defScope (top 33), [], []⟩
def d__law_right : He.DefD := ⟨("_law_right", none), "_law_right", "_law_right", defArgs (top 34), defBody (top 34), defScope (top 34), [], []⟩
def d__law_ring : He.DefD := ⟨("_law_ring", none), "_law_ring", "_law_ring", defArgs (top 35), defBody (top 35), defScope (top 35), [], []⟩
def d__law_nested : He.DefD := ⟨("_law_nested", none), "_law_nested", "_law_nested", defArgs (top 36), defBody (top 36), defScope (top 36), [], []⟩
def d_law : He.DefD := ⟨("law", none), "law", "law", defArgs (top 37), defBody (top 37), defScope (top 37), [], []⟩
def fnL : List He.DefD := [d_Function___init__, d_field_spots, d_is_number, d_is_tag, d_bounded, d_reckoned, d_Runner___init__, d_Runner_all_of, d_Runner_called, d_Runner_word_value, d_Runner_let_value, d_Runner_ring_value, d_Runner_case_value, d_Runner_if_value, d_Runner_pick_value, d_Runner_bound_value, d_Runner_value, d_Runner_worked_vals, d_given_paths, d_put_part, d_declared, d_run, d__law_next, d__law_drawn, d__law_names, d__law_world, d__law_fault, d__law_called, d__law_reckoned, d__law_chosen, d__law_bound, d__law_value, d__law_ran, d__law_told, d__law_right, d__law_ring, d__law_nested, d_law]
def faL : List He.Fa := [.glo "field_spots", .glo "is_number", .glo "is_tag", .glo "bounded", .glo "reckoned", .glo "given_paths", .glo "put_part", .glo "declared", .glo "run", .glo "_law_next", .glo "_law_drawn", .glo "_law_names", .glo "_law_world", .glo "_law_fault", .glo "_law_called", .glo "_law_reckoned", .glo "_law_chosen", .glo "_law_bound", .glo "_law_value", .glo "_law_ran", .glo "_law_told", .glo "_law_right", .glo "_law_ring", .glo "_law_nested", .glo "law", .glo "Function", .cls "Function", .mkr "Function", .glo "Runner", .cls "Runner", .mkr "Runner", .noat "Function" "name", .noat "Function" "phrase", .noat "Function" "names", .noat "Runner" "spots", .noat "Runner" "most", .noat "Runner" "begun", .noat "Runner" "under", .meth "Runner" "all_of", .meth "Runner" "called", .meth "Runner" "word_value", .meth "Runner" "let_value", .meth "Runner" "ring_value", .meth "Runner" "case_value", .meth "Runner" "if_value", .meth "Runner" "pick_value", .meth "Runner" "bound_value", .meth "Runner" "value", .meth "Runner" "worked_vals", .glo "Stuck", .exc "Stuck", .exm "Stuck" "FaceError" true, .glo "TooGreat", .exc "TooGreat", .exm "TooGreat" "FaceError" true, .glo "TooLong", .exc "TooLong", .exm "TooLong" "FaceError" true, .glo "TooDeep", .exc "TooDeep", .exm "TooDeep" "FaceError" true, .glo "FaceError", .int "DEEPEST" 10, .int "GREATEST" greatest, .free "isinstance", .free "int", .free "str", .free "tuple", .free "list", .free "bool", .free "abs", .free "dict", .free "max", .free "sum", .free "zip", .free "enumerate", .free "range", .free "len"]
def excB (K : PySem.W.Frag) (x : Str) : Bool :=
  He.eqO (PySem.W.findIn K (.ref (He.ga K x)) "__getattribute__") (some (some (.builtin "BaseException.__getattribute__"))) && (He.eqO (PySem.W.findIn K (.ref (He.ga K x)) "__getattr__") (some none) &&
  (decide (PySem.W.subIn K (.ref (He.ga K x)) (.type "BaseException") = some true) && (PySem.W.hasDictIn K (He.ga K x) && (He.eqO (PySem.W.findIn K (.ref (He.ga K x)) "__class__") (some (some (.builtin "object.__class__"))) &&
  decide (PySem.W.mroIn K (He.ga K x) (.type "object") = some true)))))
def fNm : Fault → Str
  | .stuck => "Stuck"
  | .great => "TooGreat"
  | .long => "TooLong"
  | .deep => "TooDeep"
def faults : List Fault := [.stuck, .great, .long, .deep]
theorem mem_faults (g : Fault) : g ∈ faults := by cases g <;> decide
def exB (K : PySem.W.Frag) : Bool :=
  He.eqO (PySem.W.findIn K (.ref (He.ga K "Function")) "__class__") (some (some (.builtin "object.__class__"))) && (He.eqO (PySem.W.specialIn K (.builtin "object.__class__") "__get__") (some (some (.builtin "getset_descriptor.__get__"))) &&
  (decide (PySem.W.takesIn K (.builtin "object.__class__") = some true) && (decide (PySem.W.mroIn K (He.ga K "Function") (.type "object") = some true) && (decide (He.ga K "Function" ≠ He.ga K "Runner") &&
  (decide (PySem.W.kitOne K (.type "int") (.ref (He.ga K "Function")) = some false) && (decide (PySem.W.kitOne K (.type "tuple") (.ref (He.ga K "Function")) = some false) && (decide (PySem.W.kitOne K (.ref (He.ga K "Function")) (.type "int") = some false) &&
  ((faults.all fun g => excB K (fNm g)) && (faults.all fun g => faults.all fun g' => decide (PySem.W.kitOne K (.ref (He.ga K (fNm g))) (.ref (He.ga K (fNm g'))) = some (decide (g = g'))))))))))))
def adK (K : PySem.W.Frag) : Ad := ⟨He.ga K "Function", He.ga K "Runner", He.ga K "Stuck", He.ga K "TooGreat", He.ga K "TooLong", He.ga K "TooDeep"⟩
theorem adK_exc {K : PySem.W.Frag} (g : Fault) : (adK K).exc g = He.ga K (fNm g) := by cases g <;> rfl
section
variable {P : Program} {w : World} {K : PySem.W.Frag} {mg : Str → Option Value} {base h : Heap}
/-- what the head tells -/
structure Told (K : PySem.W.Frag) (mg : Str → Option Value) (h : Heap) : Prop where
  X : K.In h
  G : h.Ns mainGlobals mg
  c : He.SaysD faL fnL K
  m : exB K = true
theorem Told.glo (t : Told K mg h) (x : Str) (hx : He.Fa.glo x ∈ faL) : mg x = some (.ref (He.ga K x)) := He.glo_ok t.X t.G (t.c.facts hx)
theorem Told.free (t : Told K mg h) (x : Str) (hx : He.Fa.free x ∈ faL) : mg x = none := He.free_ok t.X t.G (t.c.facts hx)
theorem Told.lt (t : Told K mg h) : LT mg :=
  ⟨t.free "isinstance" (by simp [faL]), t.free "int" (by simp [faL]), t.free "str" (by simp [faL]), t.free "tuple" (by simp [faL]), t.free "list" (by simp [faL]), t.free "bool" (by simp [faL]), t.free "abs" (by simp [faL]), t.free "dict" (by simp [faL]), t.free "max" (by simp [faL]), t.free "sum" (by simp [faL]), t.free "zip" (by simp [faL]), t.free "enumerate" (by simp [faL]), t.free "range" (by simp [faL]), t.free "len" (by simp [faL])⟩
theorem Told.xcls (t : Told K mg h) (x : Str) (h1 : He.Fa.glo x ∈ faL) (h2 : He.Fa.exc x ∈ faL) : XCls K mg x (He.ga K x) := by
  obtain ⟨a, b, c, d⟩ := He.exc_ok (t.c.facts h2)
  exact ⟨t.glo x h1, a, b, c, d⟩
theorem Told.rt (t : Told K mg h) : RT K mg (adK K) := by
  have m := t.m
  unfold exB at m
  simp only [Bool.and_eq_true, decide_eq_true_eq] at m
  obtain ⟨m1, m2, m3, m4, m5, m6, m7, m8, _, _⟩ := m
  exact ⟨He.cls_ok (t.c.facts (f := .cls "Function") (by simp [faL])), He.cls_ok (t.c.facts (f := .cls "Runner") (by simp [faL])), He.eqO_ok m1, He.eqO_ok m2, m3, m4, m5, m6, m7, m8,
    He.noat_ok (t.c.facts (f := .noat "Function" "name") (by simp [faL])), He.noat_ok (t.c.facts (f := .noat "Function" "phrase") (by simp [faL])), He.noat_ok (t.c.facts (f := .noat "Function" "names") (by simp [faL])),
    He.noat_ok (t.c.facts (f := .noat "Runner" "spots") (by simp [faL])), He.noat_ok (t.c.facts (f := .noat "Runner" "most") (by simp [faL])), He.noat_ok (t.c.facts (f := .noat "Runner" "begun") (by simp [faL])), He.noat_ok (t.c.facts (f := .noat "Runner" "under") (by simp [faL])),
    t.glo "Function" (by simp [faL]), He.int_ok t.X t.G (t.c.facts (f := .int "DEEPEST" 10) (by simp [faL])), He.int_ok t.X t.G (t.c.facts (f := .int "GREATEST" greatest) (by simp [faL])),
    t.xcls "Stuck" (by simp [faL]) (by simp [faL]), t.xcls "TooGreat" (by simp [faL]) (by simp [faL]), t.xcls "TooLong" (by simp [faL]) (by simp [faL]), t.xcls "TooDeep" (by simp [faL]) (by simp [faL]),
    t.lt.z_isinstance, t.lt.z_int, t.lt.z_str, t.lt.z_tuple, t.lt.z_abs, t.lt.z_dict, t.lt.z_max, t.lt.z_enumerate⟩
theorem Told.et (t : Told K mg h) : ET K mg (adK K) (He.ga K "FaceError") := by
  have m := t.m
  unfold exB at m
  simp only [Bool.and_eq_true, decide_eq_true_eq] at m
  obtain ⟨_, m2, m3, _, _, _, _, _, m9, m10⟩ := m
  refine ⟨t.glo "FaceError" (by simp [faL]), fun g => ?_, fun g => ?_, fun g g' => ?_, t.glo "Stuck" (by simp [faL]), t.glo "TooGreat" (by simp [faL]), t.glo "TooLong" (by simp [faL]), t.glo "TooDeep" (by simp [faL])⟩
  · rw [adK_exc]
    cases g
    · exact He.exm_ok (t.c.facts (f := .exm "Stuck" "FaceError" true) (by simp [faL]))
    · exact He.exm_ok (t.c.facts (f := .exm "TooGreat" "FaceError" true) (by simp [faL]))
    · exact He.exm_ok (t.c.facts (f := .exm "TooLong" "FaceError" true) (by simp [faL]))
    · exact He.exm_ok (t.c.facts (f := .exm "TooDeep" "FaceError" true) (by simp [faL]))
  · have e := List.all_eq_true.mp m9 g (mem_faults g)
    rw [adK_exc]
    unfold excB at e
    simp only [Bool.and_eq_true, decide_eq_true_eq] at e
    obtain ⟨e1, e2, e3, e4, e5, e6⟩ := e
    exact ⟨He.eqO_ok e1, He.eqO_ok e2, e3, e4, He.eqO_ok e5, He.eqO_ok m2, m3, e6⟩
  · rw [adK_exc, adK_exc]
    exact of_decide_eq_true (List.all_eq_true.mp (List.all_eq_true.mp m10 g (mem_faults g)) g' (mem_faults g'))
theorem Told.mk_Function (t : Told K mg h) {k : Nat} {sp : Sp} (H : ∀ f fd, Fun K "__init__" "Function.__init__" (inClass (top 9) 0) f fd → FnOk P w K mg base CX0 k f fd ["self", "name", "phrase", "names"] sp) : MakN P w K mg base CX0 k "Function" (He.ga K "Function") ["self", "name", "phrase", "names"] sp := by
  obtain ⟨fd, F⟩ := t.c.def_ 0 (d := d_Function___init__) rfl
  exact ⟨_, fd, He.mkr_ok (t.c.facts (f := .mkr "Function") (by simp [faL])), t.glo "Function" (by simp [faL]), F.bindsN fun _ _ _ _ _ _ us hl => match us, hl with | [_, _, _, _], _ => rfl, H _ _ (He5.fun_of F)⟩
theorem Told.field_spots (t : Told K mg h) : CAt K mg "field_spots" (top 10) ["program"] := by
  obtain ⟨fd, F⟩ := t.c.def_ 1 (d := d_field_spots) rfl
  exact ⟨_, fd, t.glo "field_spots" (by simp [faL]), F.kp, He5.fun_of F, F.bindsN fun _ _ _ _ _ _ us hl => match us, hl with | [_], _ => rfl⟩
theorem Told.is_number (t : Told K mg h) : CAt K mg "is_number" (top 11) ["value"] := by
  obtain ⟨fd, F⟩ := t.c.def_ 2 (d := d_is_number) rfl
  exact ⟨_, fd, t.glo "is_number" (by simp [faL]), F.kp, He5.fun_of F, F.bindsN fun _ _ _ _ _ _ us hl => match us, hl with | [_], _ => rfl⟩
theorem Told.is_tag (t : Told K mg h) : CAt K mg "is_tag" (top 12) ["word"] := by
  obtain ⟨fd, F⟩ := t.c.def_ 3 (d := d_is_tag) rfl
  exact ⟨_, fd, t.glo "is_tag" (by simp [faL]), F.kp, He5.fun_of F, F.bindsN fun _ _ _ _ _ _ us hl => match us, hl with | [_], _ => rfl⟩
theorem Told.bounded (t : Told K mg h) : CAt K mg "bounded" (top 13) ["number"] := by
  obtain ⟨fd, F⟩ := t.c.def_ 4 (d := d_bounded) rfl
  exact ⟨_, fd, t.glo "bounded" (by simp [faL]), F.kp, He5.fun_of F, F.bindsN fun _ _ _ _ _ _ us hl => match us, hl with | [_], _ => rfl⟩
theorem Told.reckoned (t : Told K mg h) : CAt K mg "reckoned" (top 14) ["word", "one", "other"] := by
  obtain ⟨fd, F⟩ := t.c.def_ 5 (d := d_reckoned) rfl
  exact ⟨_, fd, t.glo "reckoned" (by simp [faL]), F.kp, He5.fun_of F, F.bindsN fun _ _ _ _ _ _ us hl => match us, hl with | [_, _, _], _ => rfl⟩
theorem Told.mk_Runner (t : Told K mg h) {k : Nat} {sp : Sp} (H : ∀ f fd, Fun K "__init__" "Runner.__init__" (inClass (top 15) 0) f fd → FnOk P w K mg base CX0 k f fd ["self", "program", "most"] sp) : MakN P w K mg base CX0 k "Runner" (He.ga K "Runner") ["self", "program", "most"] sp := by
  obtain ⟨fd, F⟩ := t.c.def_ 6 (d := d_Runner___init__) rfl
  exact ⟨_, fd, He.mkr_ok (t.c.facts (f := .mkr "Runner") (by simp [faL])), t.glo "Runner" (by simp [faL]), F.bindsN fun _ _ _ _ _ _ us hl => match us, hl with | [_, _, _], _ => rfl, H _ _ (He5.fun_of F)⟩
theorem Told.Runner_all_of (t : Told K mg h) : MAt K (He.ga K "Runner") "all_of" "Runner.all_of" (inClass (top 15) 1) ["self", "phrases", "names"] := by
  obtain ⟨fd, F⟩ := t.c.def_ 7 (d := d_Runner_all_of) rfl
  exact ⟨_, fd, He.meth_ok (t.c.facts (f := .meth "Runner" "all_of") (by simp [faL])), He5.fun_of F, F.bindsN fun _ _ _ _ _ _ us hl => match us, hl with | [_, _, _], _ => rfl⟩
theorem Told.Runner_called (t : Told K mg h) : MAt K (He.ga K "Runner") "called" "Runner.called" (inClass (top 15) 2) ["self", "function", "thing"] := by
  obtain ⟨fd, F⟩ := t.c.def_ 8 (d := d_Runner_called) rfl
  exact ⟨_, fd, He.meth_ok (t.c.facts (f := .meth "Runner" "called") (by simp [faL])), He5.fun_of F, F.bindsN fun _ _ _ _ _ _ us hl => match us, hl with | [_, _, _], _ => rfl⟩
theorem Told.Runner_word_value (t : Told K mg h) : MAt K (He.ga K "Runner") "word_value" "Runner.word_value" (inClass (top 15) 3) ["self", "word", "names"] := by
  obtain ⟨fd, F⟩ := t.c.def_ 9 (d := d_Runner_word_value) rfl
  exact ⟨_, fd, He.meth_ok (t.c.facts (f := .meth "Runner" "word_value") (by simp [faL])), He5.fun_of F, F.bindsN fun _ _ _ _ _ _ us hl => match us, hl with | [_, _, _], _ => rfl⟩
theorem Told.Runner_let_value (t : Told K mg h) : MAt K (He.ga K "Runner") "let_value" "Runner.let_value" (inClass (top 15) 4) ["self", "phrase", "names"] := by
  obtain ⟨fd, F⟩ := t.c.def_ 10 (d := d_Runner_let_value) rfl
  exact ⟨_, fd, He.meth_ok (t.c.facts (f := .meth "Runner" "let_value") (by simp [faL])), He5.fun_of F, F.bindsN fun _ _ _ _ _ _ us hl => match us, hl with | [_, _, _], _ => rfl⟩
theorem Told.Runner_ring_value (t : Told K mg h) : MAt K (He.ga K "Runner") "ring_value" "Runner.ring_value" (inClass (top 15) 5) ["self", "phrase", "names"] := by
  obtain ⟨fd, F⟩ := t.c.def_ 11 (d := d_Runner_ring_value) rfl
  exact ⟨_, fd, He.meth_ok (t.c.facts (f := .meth "Runner" "ring_value") (by simp [faL])), He5.fun_of F, F.bindsN fun _ _ _ _ _ _ us hl => match us, hl with | [_, _, _], _ => rfl⟩
theorem Told.Runner_case_value (t : Told K mg h) : MAt K (He.ga K "Runner") "case_value" "Runner.case_value" (inClass (top 15) 6) ["self", "phrase", "names"] := by
  obtain ⟨fd, F⟩ := t.c.def_ 12 (d := d_Runner_case_value) rfl
  exact ⟨_, fd, He.meth_ok (t.c.facts (f := .meth "Runner" "case_value") (by simp [faL])), He5.fun_of F, F.bindsN fun _ _ _ _ _ _ us hl => match us, hl with | [_, _, _], _ => rfl⟩
theorem Told.Runner_if_value (t : Told K mg h) : MAt K (He.ga K "Runner") "if_value" "Runner.if_value" (inClass (top 15) 7) ["self", "phrase", "names"] := by
  obtain ⟨fd, F⟩ := t.c.def_ 13 (d := d_Runner_if_value) rfl
  exact ⟨_, fd, He.meth_ok (t.c.facts (f := .meth "Runner" "if_value") (by simp [faL])), He5.fun_of F, F.bindsN fun _ _ _ _ _ _ us hl => match us, hl with | [_, _, _], _ => rfl⟩
theorem Told.Runner_pick_value (t : Told K mg h) : MAt K (He.ga K "Runner") "pick_value" "Runner.pick_value" (inClass (top 15) 8) ["self", "phrase", "names"] := by
  obtain ⟨fd, F⟩ := t.c.def_ 14 (d := d_Runner_pick_value) rfl
  exact ⟨_, fd, He.meth_ok (t.c.facts (f := .meth "Runner" "pick_value") (by simp [faL])), He5.fun_of F, F.bindsN fun _ _ _ _ _ _ us hl => match us, hl with | [_, _, _], _ => rfl⟩
theorem Told.Runner_bound_value (t : Told K mg h) : MAt K (He.ga K "Runner") "bound_value" "Runner.bound_value" (inClass (top 15) 9) ["self", "phrase", "names"] := by
  obtain ⟨fd, F⟩ := t.c.def_ 15 (d := d_Runner_bound_value) rfl
  exact ⟨_, fd, He.meth_ok (t.c.facts (f := .meth "Runner" "bound_value") (by simp [faL])), He5.fun_of F, F.bindsN fun _ _ _ _ _ _ us hl => match us, hl with | [_, _, _], _ => rfl⟩
theorem Told.Runner_value (t : Told K mg h) : MAt K (He.ga K "Runner") "value" "Runner.value" (inClass (top 15) 10) ["self", "phrase", "names"] := by
  obtain ⟨fd, F⟩ := t.c.def_ 16 (d := d_Runner_value) rfl
  exact ⟨_, fd, He.meth_ok (t.c.facts (f := .meth "Runner" "value") (by simp [faL])), He5.fun_of F, F.bindsN fun _ _ _ _ _ _ us hl => match us, hl with | [_, _, _], _ => rfl⟩
theorem Told.Runner_worked_vals (t : Told K mg h) : MAt K (He.ga K "Runner") "worked_vals" "Runner.worked_vals" (inClass (top 15) 11) ["self", "body", "paths"] := by
  obtain ⟨fd, F⟩ := t.c.def_ 17 (d := d_Runner_worked_vals) rfl
  exact ⟨_, fd, He.meth_ok (t.c.facts (f := .meth "Runner" "worked_vals") (by simp [faL])), He5.fun_of F, F.bindsN fun _ _ _ _ _ _ us hl => match us, hl with | [_, _, _], _ => rfl⟩
theorem Told.given_paths (t : Told K mg h) : CAt K mg "given_paths" (top 16) ["paths", "givers", "parts"] := by
  obtain ⟨fd, F⟩ := t.c.def_ 18 (d := d_given_paths) rfl
  exact ⟨_, fd, t.glo "given_paths" (by simp [faL]), F.kp, He5.fun_of F, F.bindsN fun _ _ _ _ _ _ us hl => match us, hl with | [_, _, _], _ => rfl⟩
theorem Told.put_part (t : Told K mg h) : CAt K mg "put_part" (top 17) ["paths", "part", "vals"] := by
  obtain ⟨fd, F⟩ := t.c.def_ 19 (d := d_put_part) rfl
  exact ⟨_, fd, t.glo "put_part" (by simp [faL]), F.kp, He5.fun_of F, F.bindsN fun _ _ _ _ _ _ us hl => match us, hl with | [_, _, _], _ => rfl⟩
theorem Told.declared (t : Told K mg h) : CAt K mg "declared" (top 18) ["runner", "declarations"] := by
  obtain ⟨fd, F⟩ := t.c.def_ 20 (d := d_declared) rfl
  exact ⟨_, fd, t.glo "declared" (by simp [faL]), F.kp, He5.fun_of F, F.bindsN fun _ _ _ _ _ _ us hl => match us, hl with | [_, _], _ => rfl⟩
theorem Told._law_next (t : Told K mg h) : CAt K mg "_law_next" (top 21) ["_law_state", "_law_many"] := by
  obtain ⟨fd, F⟩ := t.c.def_ 22 (d := d__law_next) rfl
  exact ⟨_, fd, t.glo "_law_next" (by simp [faL]), F.kp, He5.fun_of F, F.bindsN fun _ _ _ _ _ _ us hl => match us, hl with | [_, _], _ => rfl⟩
theorem Told._law_drawn (t : Told K mg h) : CAt K mg "_law_drawn" (top 22) ["_law_script"] := by
  obtain ⟨fd, F⟩ := t.c.def_ 23 (d := d__law_drawn) rfl
  exact ⟨_, fd, t.glo "_law_drawn" (by simp [faL]), F.kp, He5.fun_of F, F.bindsN fun _ _ _ _ _ _ us hl => match us, hl with | [_], _ => rfl⟩
theorem Told._law_names (t : Told K mg h) : CAt K mg "_law_names" (top 23) ["_law_state", "_law_many"] := by
  obtain ⟨fd, F⟩ := t.c.def_ 24 (d := d__law_names) rfl
  exact ⟨_, fd, t.glo "_law_names" (by simp [faL]), F.kp, He5.fun_of F, F.bindsN fun _ _ _ _ _ _ us hl => match us, hl with | [_, _], _ => rfl⟩
theorem Told._law_world (t : Told K mg h) : CAt K mg "_law_world" (top 24) ["_law_program", "_law_most"] := by
  obtain ⟨fd, F⟩ := t.c.def_ 25 (d := d__law_world) rfl
  exact ⟨_, fd, t.glo "_law_world" (by simp [faL]), F.kp, He5.fun_of F, F.bindsN fun _ _ _ _ _ _ us hl => match us, hl with | [_, _], _ => rfl⟩
theorem Told._law_fault (t : Told K mg h) : CAt K mg "_law_fault" (top 25) ["_law_world_here", "_law_word"] := by
  obtain ⟨fd, F⟩ := t.c.def_ 26 (d := d__law_fault) rfl
  exact ⟨_, fd, t.glo "_law_fault" (by simp [faL]), F.kp, He5.fun_of F, F.bindsN fun _ _ _ _ _ _ us hl => match us, hl with | [_, _], _ => rfl⟩
theorem Told._law_called (t : Told K mg h) : CAt K mg "_law_called" (top 26) ["_law_world_here", "_law_function", "_law_thing"] := by
  obtain ⟨fd, F⟩ := t.c.def_ 27 (d := d__law_called) rfl
  exact ⟨_, fd, t.glo "_law_called" (by simp [faL]), F.kp, He5.fun_of F, F.bindsN fun _ _ _ _ _ _ us hl => match us, hl with | [_, _, _], _ => rfl⟩
theorem Told._law_reckoned (t : Told K mg h) : CAt K mg "_law_reckoned" (top 27) ["_law_world_here", "_law_word", "_law_one", "_law_other"] := by
  obtain ⟨fd, F⟩ := t.c.def_ 28 (d := d__law_reckoned) rfl
  exact ⟨_, fd, t.glo "_law_reckoned" (by simp [faL]), F.kp, He5.fun_of F, F.bindsN fun _ _ _ _ _ _ us hl => match us, hl with | [_, _, _, _], _ => rfl⟩
theorem Told._law_chosen (t : Told K mg h) : CAt K mg "_law_chosen" (top 28) ["_law_world_here", "_law_phrase", "_law_names_here"] := by
  obtain ⟨fd, F⟩ := t.c.def_ 29 (d := d__law_chosen) rfl
  exact ⟨_, fd, t.glo "_law_chosen" (by simp [faL]), F.kp, He5.fun_of F, F.bindsN fun _ _ _ _ _ _ us hl => match us, hl with | [_, _, _], _ => rfl⟩
theorem Told._law_bound (t : Told K mg h) : CAt K mg "_law_bound" (top 29) ["_law_world_here", "_law_phrase", "_law_names_here"] := by
  obtain ⟨fd, F⟩ := t.c.def_ 30 (d := d__law_bound) rfl
  exact ⟨_, fd, t.glo "_law_bound" (by simp [faL]), F.kp, He5.fun_of F, F.bindsN fun _ _ _ _ _ _ us hl => match us, hl with | [_, _, _], _ => rfl⟩
theorem Told._law_value (t : Told K mg h) : CAt K mg "_law_value" (top 30) ["_law_world_here", "_law_phrase", "_law_names_here"] := by
  obtain ⟨fd, F⟩ := t.c.def_ 31 (d := d__law_value) rfl
  exact ⟨_, fd, t.glo "_law_value" (by simp [faL]), F.kp, He5.fun_of F, F.bindsN fun _ _ _ _ _ _ us hl => match us, hl with | [_, _, _], _ => rfl⟩
theorem Told._law_ran (t : Told K mg h) : CAt K mg "_law_ran" (top 32) ["_law_program", "_law_most"] := by
  obtain ⟨fd, F⟩ := t.c.def_ 32 (d := d__law_ran) rfl
  exact ⟨_, fd, t.glo "_law_ran" (by simp [faL]), F.kp, He5.fun_of F, F.bindsN fun _ _ _ _ _ _ us hl => match us, hl with | [_, _], _ => rfl⟩
theorem Told._law_told (t : Told K mg h) : CAt K mg "_law_told" (top 33) ["_law_program", "_law_most"] := by
  obtain ⟨fd, F⟩ := t.c.def_ 33 (d := d__law_told) rfl
  exact ⟨_, fd, t.glo "_law_told" (by simp [faL]), F.kp, He5.fun_of F, F.bindsN fun _ _ _ _ _ _ us hl => match us, hl with | [_, _], _ => rfl⟩
theorem Told._law_right (t : Told K mg h) : CAt K mg "_law_right" (top 34) ["_law_program", "_law_most"] := by
  obtain ⟨fd, F⟩ := t.c.def_ 34 (d := d__law_right) rfl
  exact ⟨_, fd, t.glo "_law_right" (by simp [faL]), F.kp, He5.fun_of F, F.bindsN fun _ _ _ _ _ _ us hl => match us, hl with | [_, _], _ => rfl⟩
theorem Told._law_ring (t : Told K mg h) : CAt K mg "_law_ring" (top 35) ["_law_state", "_law_pool", "_law_many"] := by
  obtain ⟨fd, F⟩ := t.c.def_ 35 (d := d__law_ring) rfl
  exact ⟨_, fd, t.glo "_law_ring" (by simp [faL]), F.kp, He5.fun_of F, F.bindsN fun _ _ _ _ _ _ us hl => match us, hl with | [_, _, _], _ => rfl⟩
theorem Told._law_nested (t : Told K mg h) : CAt K mg "_law_nested" (top 36) ["_law_state", "_law_pool"] := by
  obtain ⟨fd, F⟩ := t.c.def_ 36 (d := d__law_nested) rfl
  exact ⟨_, fd, t.glo "_law_nested" (by simp [faL]), F.kp, He5.fun_of F, F.bindsN fun _ _ _ _ _ _ us hl => match us, hl with | [_, _], _ => rfl⟩
theorem Told.law (t : Told K mg h) : CAt K mg "law" (top 37) ["_law_script"] := by
  obtain ⟨fd, F⟩ := t.c.def_ 37 (d := d_law) rfl
  exact ⟨_, fd, t.glo "law" (by simp [faL]), F.kp, He5.fun_of F, F.bindsN fun _ _ _ _ _ _ us hl => match us, hl with | [_], _ => rfl⟩

theorem all_c {pool : List Str} (hp : pool.length ≤ 1000) (t : Told K mg h) (n : Int) : MetN P w K mg base (L2N.CX P w) 671 (He.ga K "Runner") "value" ["self", "phrase", "names"] (spVal K (adK K) pool 20 (maxI n) 10 20) := by
  have c1 : CalN P w K mg base CX0 1 "is_number" ["value"] (spIsNum K) := t.is_number.cal fun f fd F => ok_is_number F t.rt
  have c2 : CalN P w K mg base CX0 1 "is_tag" ["word"] spIsTag := t.is_tag.cal fun f fd F => ok_is_tag F
  have c3 : CalN P w K mg base (L2N.CX P w) 1 "bounded" ["number"] (spBounded (adK K)) := t.bounded.cal fun f fd F => ok_bounded F t.rt
  have c4 : CalN P w K mg base (L2N.CX P w) 2 "reckoned" ["word", "one", "other"] (spReck K (adK K)) := t.reckoned.cal fun f fd F => ok_reckoned F t.rt c1 c3
  have kF : MakN P w K mg base CX0 1 "Function" (adK K).CF ["self", "name", "phrase", "names"] (spFnI (adK K)) := t.mk_Function fun f fd F => ok_Function___init__ F t.rt
  have R : Rm P w K mg base (adK K) := ⟨c1, c2, c4, kF⟩
  have M : Rt K (adK K) := ⟨t.Runner_all_of, t.Runner_called, t.Runner_word_value, t.Runner_let_value, t.Runner_ring_value, t.Runner_if_value, t.Runner_bound_value, t.Runner_value,
    by obtain ⟨f, fd, a, _, b⟩ := t.Runner_case_value.ex; exact ⟨f, fd, a, b⟩, by obtain ⟨f, fd, a, _, b⟩ := t.Runner_pick_value.ex; exact ⟨f, fd, a, b⟩⟩
  exact value_ok (D := 20) (n := 20) t.rt R M hp (Nat.le_refl _)
theorem c_run {pool : List Str} (hp : pool.length ≤ 1000) (t : Told K mg h) : CalN P w K mg base (L2N.CX P w) 672 "run" ["program", "most"] (spRun K (adK K) pool 20) := by
  have c1 : CalN P w K mg base CX0 1 "is_number" ["value"] (spIsNum K) := t.is_number.cal fun f fd F => ok_is_number F t.rt
  obtain ⟨f1, fd1, g1, kp1, F1, b1⟩ := t.field_spots.ex
  have kR : MakN P w K mg base CX0 2 "Runner" (adK K).CR ["self", "program", "most"] (spRunnerI K (adK K)) := t.mk_Runner fun f fd F => ok_Runner___init__ F t.rt (ok_field_spots F1 t.rt) g1 kp1 b1
  have cd : CalN P w K mg base CX0 2 "declared" ["runner", "declarations"] (spDecl K) := t.declared.cal fun f fd F => ok_declared (A := adK K) F t.put_part.never t.given_paths.never
    (met_never t.rt.clR (by obtain ⟨f, fd, a, _, b⟩ := t.Runner_worked_vals.ex; exact ⟨f, fd, a, b⟩))
  obtain ⟨fd, F⟩ := t.c.def_ 21 (d := d_run) rfl
  obtain ⟨ds, rd, b⟩ := FunD.binds1 (ps := ["program", "most"]) F 2 1 (by intro z; cases z) rfl (fun T kV doc pm an cdv ct us its hl hi => by
    match us, its, hl, hi with
    | [_, _], [_], _, _ => exact ⟨_, rfl, rfl⟩)
  cases rd
  exact ⟨_, fd, t.glo "run" (by simp [faL]), F.kp, b, ok_run (lv := 671) F t.rt (by decide) kR cd c1 fun n => all_c hp t n⟩

theorem Told.ltt (t : Told K mg h) : Lt K mg := ⟨t.lt, t._law_fault, t._law_called, t._law_reckoned, t._law_chosen, t._law_bound, t._law_value⟩
theorem f_ran {pool : List Str} (hp : pool.length ≤ 1000) (t : Told K mg h) {f : Addr} {fd : FuncData} (F : Fun K "_law_ran" "_law_ran" s__law_ran f fd) : FnN P w K mg base CX0 464 f fd ["_law_program", "_law_most"] (spRan K pool 20) :=
  ok__law_ran (lv := 463) F t.lt (by decide) (t._law_world.cal fun f fd F => ok__law_world F t.lt) (c_fault t.ltt) fun n => lvalue_ok (D := 20) (n := 20) t.ltt hp (Nat.le_refl _)
theorem c_right {pool : List Str} (hp : pool.length ≤ 1000) (t : Told K mg h) {f : Addr} {fd : FuncData} (F : Fun K "_law_right" "_law_right" s__law_right f fd) : FnN P w K mg base CX0 674 f fd ["_law_program", "_law_most"] (spRight K pool 20) :=
  ok__law_right (lv := 673) F t.lt (CalN.up (t._law_ran.cal fun f fd F => f_ran hp t F) (by decide)) (t._law_told.cal fun f fd F => ok__law_told (lv := 672) F t.lt t.et (c_run hp t))
theorem law_fn (t : Told K mg h) {f : Addr} {fd : FuncData} (F : Fun K "law" "law" s_law f fd) : FnN P w K mg base CX0 675 f fd ["_law_script"] (spLaw K) := by
  have cn : CalN P w K mg base CX0 1 "_law_next" ["_law_state", "_law_many"] spNext := t._law_next.cal fun f fd F => ok__law_next F t.lt
  exact ok_law (lv := 674) F t.lt (by decide) cn (t._law_drawn.cal fun f fd F => ok__law_drawn F t.lt) (t._law_names.cal fun f fd F => ok__law_names F t.lt cn) (t._law_ring.cal fun f fd F => ok__law_ring F t.lt cn) (t._law_nested.cal fun f fd F => ok__law_nested F t.lt cn)
    (CalN.up (t._law_ran.cal fun f fd F => FnN.ex fun pool hp => (f_ran hp t F).imp spRan2_of) (by decide)) (t._law_right.cal fun f fd F => FnN.ex fun pool hp => c_right hp t F)
theorem facts {f : Addr} (t : Told K mg h) (hfa : mg ("law" : Str) = some (.ref f)) :
    ∃ fd : FuncData, (∀ (s : Shared) (v : Value), BindsTo s fd ⟨[v], []⟩ [("_law_script", v)]) ∧ ∀ base : Heap, K.In base → base.Ns mainGlobals mg → FnOk P w K mg base CX0 230 f fd ["_law_script"] (spLaw K) := by
  obtain ⟨fd, F⟩ := t.c.def_ 37 (d := d_law) rfl
  have e := hfa.symm.trans (t.glo "law" (by simp [faL]))
  cases e
  have b := FunD.bindsA (ps := ["_law_script"]) F fun _ _ _ _ _ _ us hl => match us, hl with | [_], _ => rfl
  exact ⟨fd, fun s v => b s [v] rfl, fun base _ _ => (law_fn t (He5.fun_of F)).to (by decide) (by decide)⟩
end
end FW

set_option Elab.async false
set_option linter.all false
set_option maxRecDepth 100000
set_option maxHeartbeats 0
/-! GH: the head: what stands behind the top. -/
namespace FW
open PySem PySem.Spec PyProof.Rows L2
abbrev rowL : PySem.W.OpenRow := PySem.W.OpenLaw.row PySem.Challenge.rw_facework_k57_rings_run
abbrev hk : PySem.W.Hook := He.hookX 5 faL fnL [] [] exB
def ob (s : PySem.W.SharedT) : He.AlX := He.obsX 5 faL fnL [] [] exB (HandSHeadRun.getT s)
theorem ob_eq (s : PySem.W.SharedT) : ob s = hk.obs s.abs := He.obsX_eq (HandSHeadRun.getT_eq s)
def looseL : List PySem.Str := (["FaceError", "Stuck", "TooGreat", "TooLong", "TooDeep", "DEEPEST", "GREATEST", "Function"] : List PySem.Str) ++ (["field_spots", "is_number", "is_tag", "bounded", "reckoned", "Runner", "given_paths", "put_part"] : List PySem.Str) ++ (["declared", "run", "_law_next", "_law_drawn", "_law_names", "_law_world", "_law_fault", "_law_called"] : List PySem.Str) ++ (["_law_reckoned", "_law_chosen", "_law_bound", "_law_value", "_law_vals", "_law_ran", "_law_told", "_law_right"] : List PySem.Str) ++ (["_law_ring", "_law_nested"] : List PySem.Str)
theorem run (w : World) : HandSHeadRun.RunEq rowL (PySem.W.view rowL.prog [37]) hk ob 4000 looseL w := by
  intro os
  kernel_rfl
end FW

set_option Elab.async false
set_option linter.all false
set_option maxRecDepth 100000
set_option maxHeartbeats 0
open PySem PySem.W PySem.Calls PyProof.Rows
theorem PySem.Challenge.cw_facework_k57_rings_run_holds : PySem.Challenge.rw_facework_k57_rings_run.Holds := by
  w_on; o_law
  refine HandSHeadRun.head_any (r := OpenLaw.row PySem.Challenge.rw_facework_k57_rings_run) (q := view (OpenLaw.row PySem.Challenge.rw_facework_k57_rings_run).prog [37]) (H := FW.hk) (ob := FW.ob) (M := 4000) (loose := FW.looseL) (d := HandSHeadRun.topDef (OpenLaw.row PySem.Challenge.rw_facework_k57_rings_run).prog 37) (kwd := []) FW.ob_eq
    (by kernel_rfl) (fun s => by kernel_rfl) FW.run (by kernel_rfl) (by kernel_rfl) (by kernel_rfl) (by rfl) (by first | assumption | decide +kernel) (by decide +kernel) ⟨rfl, rfl, rfl, rfl, rfl, by decide +kernel⟩ ?hw ?hc
  case hw => w_witness2
  case hc =>
    refine L2.walk_ofE (l := PySem.Challenge.rw_facework_k57_rings_run) (n := 63) (k := 230) (x := "_law_script") (CX := L2.CX0) rfl (by decide) (by kernel_rfl) ⟨rfl, by decide, by decide⟩ ?F (fun _ _ _ _ z => z)
    intro w mg fa h Y G hmg0
    obtain ⟨K, KX, c⟩ := Y
    have hmg : mg ("law" : PySem.Str) = some (.ref fa) := by
      have e : (HandSHeadRun.topDef (OpenLaw.row PySem.Challenge.rw_facework_k57_rings_run).prog 37).name = ("law" : PySem.Str) := by kernel_rfl
      rw [← e]
      exact hmg0
    obtain ⟨fd, hb, hF⟩ := FW.facts (P := (PySem.Challenge.rw_facework_k57_rings_run).prog) (w := w) ⟨KX, G, c.t.d, c.more⟩ hmg
    exact ⟨K, fd, FW.spLaw K, KX, hb, fun H a ns hl _ hS => ⟨a, ns, rfl, hS, hl, fun _ => rfl⟩, hF⟩
#print axioms PySem.Challenge.cw_facework_k57_rings_run_holds

