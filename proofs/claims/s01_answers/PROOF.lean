import PyProof.Rows.All
import Wide.All
import OpenK.AllK
import Wide.FinOn
import PyProof.EqAt
import PyProof.EqKinds
import PyProof.TupleCall
import KE.GoesRaise
import HandS.ForSpec
import HandS.Comp
import HandS.SetFor
import HandS.SortInts
import HandS.Strs
import HandS.Dict
import HandS.Conv
import HandS.SortOrd
import KE.KDictSum
import PyProof.DictMoreH
import Open.SpecLaws
import KE.OsGo
import HandS.TryMany
import HandS.Iter
import HandS.TupAny
import HandS.TupLen
import HandS.Text
import PySem.Challenge.RW_ruletablesdesk_s01_answers
set_option Elab.async false
set_option linter.all false
set_option maxRecDepth 100000
set_option maxHeartbeats 4000000
/-! A comprehension whose element may raise (out of a call in it): the rule beside pe_lc, ps_setLc. -/
namespace Rt
open PySem PySem.Spec PyProof.Rows L2
section
variable {X : Cx} {pins : List (Addr × Obj)} {σ : L2.St} {H : Hp} {s s' : Shared}
/-- a call's exception, in flight, with the ground -/
theorem flying_of_call {E : XK} {u : Value} (I : Inv X pins σ H s) (c : L2.CX X.prog X.w X.stack H s E u s') :
    ∃ (a : Addr) (B : Heap) (sI : Shared) (H' : Hp) (cls : Value) (d : Option Addr), u = .ref a ∧ Inv X pins σ H' sI ∧ (∀ b o, sI.heap.get? b = some o → b ∉ frs X.stack → B.get? b = some o) ∧ sI.heap.UpToSlots s'.heap ∧
      HandSPX.FlyingZ B X.stack a (Zc cls d) s'.heap ∧ H' a = none ∧ s'.os = sI.os ∧ AllBare s'.gens ∧ AllBare sI.gens ∧ E cls d H' := by
  obtain ⟨a, B, H', cls, d, rfl, fl, hok, ub, na, os, ag, hE⟩ := c
  obtain ⟨G, g1, g2⟩ := restrict s'.heap fun b => (B.get? b).isSome || decide (b ∈ frs X.stack)
  have st : B.StaysIn s'.heap := fl.1
  have gB : ∀ b o, B.get? b = some o → G.get? b = some o := fun b o e => by
    rw [g1 b (by simp [e])]
    exact st b o e
  have gF : ∀ b, b ∈ frs X.stack → G.get? b = s'.heap.get? b := fun b hb => g1 b (by simp [hb])
  have og : ∀ b o, G.get? b = some o → s'.heap.get? b = some o ∧ ((B.get? b).isSome = true ∨ b ∈ frs X.stack) := fun b o e => by
    cases q : ((B.get? b).isSome || decide (b ∈ frs X.stack)) with
    | false => rw [g2 b q] at e; cases e
    | true =>
      rw [g1 b q] at e
      exact ⟨e, by simpa [Bool.or_eq_true] using q⟩
  refine ⟨a, B, { s with heap := G, gens := s'.gens, drawn := s'.drawn, toks := s'.toks }, H', cls, d, rfl, ?_, fun b o e hb => ?_, Heap.UpToSlots.of_keeps fun b o e => (og b o e).1, fl, na, os, ag, ag, hE⟩
  · refine I.call (ch := []) ⟨fun b o e n hb _ => gB b o (ub.keep b o e n hb), fun b o e n hb _ => ?_, fun b o e n _ => ub.free b o e n, fun b o e _ => ?_, ub.tups, ub.frzs, ub.tbls⟩ (hok.kept gB) ag (fun _ z => nomatch z)
    · obtain ⟨sl, q⟩ := ub.slot b o e hb
      exact ⟨sl, by rw [gF b hb]; exact q⟩
    · by_cases hb : b ∈ frs X.stack
      · obtain ⟨sl, q⟩ := ub.slot b o e hb
        exact ⟨_, by rw [gF b hb]; exact q⟩
      · obtain ⟨o', q⟩ := ub.there b o e hb
        exact ⟨o', gB b o' q⟩
  · obtain ⟨e', h⟩ := og b o e
    rcases h with h | h
    · obtain ⟨o', q⟩ := Option.isSome_iff_exists.mp h
      have z := st b o' q
      rw [e'] at z; cases z
      exact q
    · exact absurd h hb

/-- what is wanted of an exception that leaves a block's element: it came out of a call there -/
def xeB (Xb : Cx) (Eb : XK) : Value → Shared → Prop := fun u s' => ∃ (pins : List (Addr × Obj)) (σ : L2.St) (H : Hp) (s : Shared), Inv Xb pins σ H s ∧ L2.CX Xb.prog Xb.w Xb.stack H s Eb u s'
theorem passB {Xb : Cx} {Eb : XK} : Passes (L2.CX Xb.prog Xb.w) (Xb.wish (xeB Xb Eb)) Eb := fun pins σ H s e s' I c => ⟨pins, σ, H, s, I.unwish, c⟩

/-- the exception leaves the block: noted in the def's own frame, the block let go, on in the def's air -/
theorem block_raises {scope : Scope} {ce : Env} {fp : List Addr} {s3 : Shared} {H3 : Hp} {W : WX} {Eb : XK} {u : Value} (hs : X.stack = X.env :: X.outer) (hf : X.env.frame = some X.env.locals) (hcf : ce.frame = X.env.frame) (hcl : ce.locals = s3.heap.objs.size)
    (tk : Takes X W) (hW : ∀ cls d σ H, Eb cls d H → W cls d σ H) (I3 : Inv X pins σ H3 s3) (f3 : ∀ b ∈ fp, FpOk X pins H3 b) (x : xeB (X.blk s3 H3 scope ce fp) Eb u s') :
    notedBy (model X.prog X.w) X.A ce (CompFails (model X.prog X.w) X.A X.xe ce) u s' := by
  obtain ⟨pinsb, σb, Hb, sb, Ib, c⟩ := x
  obtain ⟨a, B, sI, H', cls, d, rfl, II, nb, up, fl, na, os, ag, agI, hE⟩ := flying_of_call Ib c
  have fl : HandSPX.FlyingZ B X.stack a (Zc cls d) s'.heap := fl
  have nb : ∀ b o, sI.heap.get? b = some o → b ∉ frs X.stack → B.get? b = some o := nb
  have hfr : X.A.frames = some (X.env :: X.outer) := by rw [I3.ok.frames, hs]
  rw [hs] at fl
  show wpAny _ X.A (noteFrame (.ref a) ce) _ _ s'
  rw [noteFrame_env _ hcf]
  refine HandSPX.looks_onZ Zc.steady hfr hf fl fun h1 hh1 up1 => ?_
  -- the block's own dict
  have nC : H' ce.locals = none := II.free
  have nS : s3.heap.get? ce.locals = none := Heap.get?_none_of_le (by rw [hcl]; exact Nat.le_refl _)
  obtain ⟨mI, hnI, _⟩ := II.loc
  have hnI : sI.heap.Ns ce.locals mI := hnI
  have hn1 : h1.Ns ce.locals mI := (up.trans up1).ns hnI
  refine ⟨mI, hn1, fun h2 m2 hn2 sb2 => ?_⟩
  obtain ⟨oC, esC, epC, hoC, hdC, _⟩ := id hn1
  have noC : ∀ {b : Addr} {o : Obj} {vs : Array Value}, h1.get? b = some o → o.data = .fields vs → b ≠ ce.locals := fun {b o vs} e dd z => by
    rw [z, hoC] at e
    cases e
    rw [hdC] at dd
    cases dd
  -- the ground and the state without it
  obtain ⟨B', b1, b2⟩ := restrict B fun b => decide (b ≠ ce.locals)
  obtain ⟨G, g1, g2⟩ := restrict sI.heap fun b => decide (b ≠ ce.locals)
  have toB : ∀ b o, B'.get? b = some o → B.get? b = some o ∧ b ≠ ce.locals := fun b o e => by
    by_cases hb : b = ce.locals
    · rw [b2 b (by simp [hb])] at e; cases e
    · rw [b1 b (by simp [hb])] at e; exact ⟨e, hb⟩
  have toG : ∀ b o, G.get? b = some o → sI.heap.get? b = some o ∧ b ≠ ce.locals := fun b o e => by
    by_cases hb : b = ce.locals
    · rw [g2 b (by simp [hb])] at e; cases e
    · rw [g1 b (by simp [hb])] at e; exact ⟨e, hb⟩
  have ofG : ∀ b o, b ≠ ce.locals → sI.heap.get? b = some o → G.get? b = some o := fun b o hb e => by rw [g1 b (by simp [hb])]; exact e
  have noneB : ∀ b, B.get? b = none → B'.get? b = none := fun b e => by
    cases q : B'.get? b with
    | none => rfl
    | some o => rw [(toB b o q).1] at e; cases e
  have hh2 : HandSPX.HeldZ B' (X.env :: X.outer) a (Zc cls d) X.env.locals h2 := by
    obtain ⟨k1, k2, k3, oe, vs, T, oT, ts, he, hz, hd, hv1, hnT, hTe, hT, hdT, hv3⟩ := hh1
    have frn : ∀ L ∈ frs (X.env :: X.outer), B'.get? L = none := fun L hL => noneB L (k3.mem hL).1
    refine ⟨fun b o e => ?_, noneB a k2, Heap.FunFrames.sameBut sb2 hn2 (funFrames_none k3 frn), oe, vs, T, oT, ts, ?_, hz, hd, hv1, noneB T hnT, hTe, ?_, hdT, hv3⟩
    · obtain ⟨e1, nb1⟩ := toB b o e
      exact (sb2.2 b nb1).trans (k1 b o e1)
    · exact (sb2.2 a (noC he hd)).trans he
    · exact (sb2.2 T (noC hT hdT)).trans hT
  have up2 : G.UpToSlots h2 := fun b o e hn => by
    obtain ⟨e1, n1⟩ := toG b o e
    obtain ⟨sl, e2⟩ := (up.trans up1) b o e1 hn
    exact ⟨sl, (sb2.2 b n1).trans e2⟩
  have okG : HOk X.prog X.w H' G := fun b o e => by
    have e' : ObjOk X.prog X.w H' sI.heap b o := II.hok b o e
    refine e'.stay (fun c v hc q => ofG c v (fun z => ?_) q) (fun _ q => q) fun _ _ q => q
    rcases hc with hc | hc
    · rw [← hc, z, nC] at e; cases e
    · rw [z, nC] at hc; cases hc
  have ltC : ∀ b o, s3.heap.get? b = some o → b ≠ ce.locals := fun b o e z => by rw [z, nS] at e; cases e
  have base : Un (frs X.stack) fp H3 H' s3.heap sI.heap := II.base
  have I7 : Inv X pins σ H' { sI with heap := G } := by
    refine I3.call' (ch := fp) (show sI.os = s3.os from II.os) ⟨fun b o e n hb hx => ofG b o (ltC b o e) (base.keep b o e n hb hx), fun b o e n hb hx => ?_, base.free, fun b o e hx => ?_, base.tups, base.frzs, base.tbls⟩ okG agI
      fun b hb => ⟨(f3 b hb).2.2.2.1, (f3 b hb).2.1, (f3 b hb).2.2.2.2.1, (f3 b hb).2.2.2.2.2⟩
    · obtain ⟨sl, q⟩ := base.slot b o e n hb hx
      exact ⟨sl, ofG b _ (ltC b o e) q⟩
    · obtain ⟨o', q⟩ := base.there b o e hx
      exact ⟨o', ofG b _ (ltC b o e) q⟩
  have nb' : ∀ b o, G.get? b = some o → b ∉ frs X.stack → B'.get? b = some o := fun b o e hb => by
    obtain ⟨e1, n1⟩ := toG b o e
    rw [b1 b (by simp [n1])]
    exact nb b o e1 hb
  obtain ⟨k1, k2, k3, oe, vs, T, oT, ts, he, hz, hd, hv1, hr⟩ := id hh2
  unfold PySem.passOn
  refine wpAny_bind (wpAny_field he hd hv1 ?_)
  rw [if_neg (show ¬ ((Value.ref T == Value.none) = true) from by simp)]
  have fin : wpAny (model X.prog X.w) X.A (setFlight (.ref a) ce.frame) (fun _ s4 => wpAny (model X.prog X.w) X.A (throw (.ref a) : Sem Value) (fun _ _ => False) X.xe s4) X.xe { s' with heap := h2 } := by
    rw [hcf, hf]
    refine HandSPX.setFlight_onZ hh2 fun h3 hh3 up3 => wpAny_throw (tk _ _ ?_)
    exact ⟨a, B', { sI with heap := G }, pins, σ, H', cls, d, rfl, I7, nb', up2.trans up3, .inr (.inr (by rw [hs]; exact hh3)), na, os, ag, hW _ _ _ _ hE⟩
  first
    | exact wpAny_bind (wpAny_pure (wpAny_bind fin))
    | exact wpAny_bind fin
end
end Rt

namespace Rt
open PySem PySem.Spec PyProof.Rows L2
section
variable {X : Cx}
/-- name = [elt for target in iter], where a call in elt may raise: what leaves is taken by tk -/
theorem ps_setLcX {i : Nat} {y : Str} {py : Pos} {elt tg iter : Expr} {scope : Scope} {own : List (Str × Nat)} {pos spos : Pos} {wi : TI} {g : TG} {te : TE} {W : WX} {Eb : XK} (hst : X.stack = X.env :: X.outer) (hf : X.env.frame = some X.env.locals)
    (tk : Takes X W) (hW : ∀ cls d σ H, Eb cls d H → W cls d σ H) (hc : X.calm = true) (hN : X.N.Nodup) (hy : X.N[i]? = some y) (hyl : X.env.scope.names.lookup y = some .local)
    (hsw : swapsWith (.ListComp elt [⟨tg, iter, [], 0⟩] scope pos) (some (.Name y py)) spos.line X.env = pure true) (hi : PI X tg iter wi) (ok : BlkOk X.N X.env.scope scope own)
    (hg : ∀ (s : Shared) (H : Hp) (C : Addr) (cl : List (Str × Addr)) (fp : List Addr), PG (X.blk s H scope (compEnvC scope cl C X.env) fp) tg g)
    (he : ∀ (s : Shared) (H : Hp) (C : Addr) (cl : List (Str × Addr)) (fp : List Addr), PE ((X.blk s H scope (compEnvC scope cl C X.env) fp).wish (xeB (X.blk s H scope (compEnvC scope cl C X.env) fp) Eb)) elt te)
    (hs : ∀ x, foldedSetIterable iter X.env x = pure x := by intro _; rfl) :
    PS X (.Assign [.Name y py] (.ListComp elt [⟨tg, iter, [], 0⟩] scope pos) spos) (tAsg (tLc wi g tYes te (own.map (·.2))) (gName i)) := by
  refine ⟨fun pins s σ H D I h => ?_⟩
  rw [exec_Assign_Name_used _ _ _ _ hsw]
  refine wpAny_bind (wpAny_standAt (wpAny_bind ?_))
  have h : tLc wi g tYes te (own.map (·.2)) σ H (fun x H1 => gName i x σ H1 D.nx) := h
  have hfree : ∀ z ∈ scope.names, z.2 = .free → ∃ c, X.env.cells.lookup z.1 = some c := fun z hz e => (ok.free z hz e).elim (fun k => I.ok.has _ (.inl k)) (fun k => I.ok.has _ (.inr k))
  refine wpAny_bind (thn (Q := fun _ s' => SP X pins D .next s') ?_ fun _ s' hq => wpAny_pure (wpAny_pure hq))
  show wpAny _ X.A (comprehension (.ListComp elt [⟨tg, iter, [], 0⟩] scope pos) scope X.env (firstIterPos [⟨tg, iter, [], 0⟩] pos) (newList []) false (eval iter X.env) (some (assign (.Name y py) X.env))) _ _ s
  refine comprehension_at rfl hs (closure_ok hfree) ok.kind (fun z hz e => by rw [ok.uniq z hz, e]) (thn (hi.run pins s σ H _ I h) fun xv s1 hx => thn hx fun itv s2 h2 => ?_)
  obtain ⟨it, fp, tn, J, H2, e, I2, T, st2, f2, q⟩ := h2
  subst e
  refine wpAny_newObj_type (newEnv_comp ?_) (by show 0 ≤ sizeLine; decide)
  -- the new list lies at L
  obtain ⟨L, hL⟩ : ∃ L, L = s2.heap.objs.size := ⟨_, rfl⟩
  rw [← hL]
  have hLn : H2 L = none := I2.hok.fresh (Nat.le_of_eq hL.symm)
  obtain ⟨Wi, ⟨m0, w0⟩, turn⟩ := q L hLn
  obtain ⟨s3, hs3⟩ : ∃ s3 : Shared, s3 = { s2 with heap := s2.heap.push { cls := .type "list", data := .seq ([] : List Value).toArray } } := ⟨_, rfl⟩
  have h3 : s3.heap = s2.heap.push { cls := .type "list", data := .seq ([] : List Value).toArray } := by rw [hs3]
  rw [← hs3]
  have I3 : Inv X pins σ (upd H2 L (.lst [])) s3 := by
    rw [hs3]
    exact I2.laid (t' := s2.toks) (fun b o e => Heap.get?_push_of_some _ e) (Nat.le_of_eq hL.symm) ⟨Nat.zero_le _, [], 0, .nil, by rw [hL]; exact Heap.get?_push_size _ rfl⟩
  have f3 : ∀ b ∈ fp, FpOk X pins (upd H2 L (.lst [])) b ∧ b < s3.heap.objs.size := fun b hb => by
    obtain ⟨o, e, _⟩ := T.obj _ _ st2 b hb
    have hlt := Heap.lt_size e
    refine ⟨⟨?_, (f2 b hb).2⟩, by rw [h3, Heap.size_push]; exact Nat.lt_succ_of_lt hlt⟩
    rw [upd_ne (by rw [hL]; exact Nat.ne_of_lt hlt)]
    exact (f2 b hb).1
  have st3 : tn 0 s3.heap := T.keep _ _ _ st2 fun b _ o e => by rw [h3]; exact Heap.get?_push_of_some _ e
  have I4 := block_start I3 ok hN f3
  have pg := hg s3 (upd H2 L (.lst [])) s3.heap.objs.size (cellsFrom (s3.heap.objs.size + 1) scope.names (cloFrom X.env.cells scope.names [])) fp
  have pe := he s3 (upd H2 L (.lst [])) s3.heap.objs.size (cellsFrom (s3.heap.objs.size + 1) scope.names (cloFrom X.env.cells scope.names [])) fp
  show codeAny _ _ (.compStart (.ListComp elt [⟨tg, iter, [], 0⟩] scope pos) 0 (.ref it) (.ref L) (compEnvC scope (cellsFrom (s3.heap.objs.size + 1) scope.names (cloFrom X.env.cells scope.names [])) s3.heap.objs.size X.env))
    (compEnds (model X.prog X.w) X.A X.xe (some (assign (.Name y py) X.env)) (fun _ s' => SP X pins D .next s') (.ref L) (compEnvC scope (cellsFrom (s3.heap.objs.size + 1) scope.names (cloFrom X.env.cells scope.names [])) s3.heap.objs.size X.env))
    { s3 with heap := pushCells (s3.heap.push { cls := .type "dict", data := .dict #[] }) scope.names }
  obtain ⟨ce, hce⟩ : ∃ ce, ce = compEnvC scope (cellsFrom (s3.heap.objs.size + 1) scope.names (cloFrom X.env.cells scope.names [])) s3.heap.objs.size X.env := ⟨_, rfl⟩
  rw [← hce] at I4 pg pe ⊢
  have cL : ce.locals = s3.heap.objs.size := by rw [hce]; rfl
  have cF : ce.frame = X.env.frame := by rw [hce]; rfl
  obtain ⟨H3, hH3⟩ : ∃ H3, H3 = upd H2 L (.lst []) := ⟨_, rfl⟩
  rw [← hH3] at I3 I4 pg pe w0 f3
  obtain ⟨s4, hs4⟩ : ∃ s4 : Shared, s4 = { s3 with heap := pushCells (s3.heap.push { cls := .type "dict", data := .dict #[] }) scope.names } := ⟨_, rfl⟩
  rw [← hs4] at I4 ⊢
  have st4 : tn 0 s4.heap := T.keep _ _ _ st3 fun b _ o e => by rw [hs4]; exact pushCells_keeps _ _ _ _ (Heap.get?_push_of_some _ e)
  have stat : ∀ {σ' : L2.St} {H' : Hp} {s' : Shared}, Inv (X.blk s3 H3 scope ce fp) [] σ' H' s' → (∀ b ∈ fp, H' b = none) → ∀ b ∈ fp, FpOk (X.blk s3 H3 scope ce fp) [] H' b := fun {σ' H' s'} I' hn b hb =>
    ⟨hn b hb, (I'.ok.exf b hb).1, I'.ok.exfs b hb, .inl hb, fun x c e => (I'.ok.exf b hb).2 x c e, fun p hp => absurd (show p ∈ ([] : List (Addr × Obj)) ++ [] from hp) (by simp)⟩
  -- how a raise leaves
  have out : ∀ (u : Value) (s' : Shared), xeB (X.blk s3 H3 scope ce fp) Eb u s' → notedBy (model X.prog X.w) X.A ce (fun e s'' => compEnds (model X.prog X.w) X.A X.xe (some (assign (.Name y py) X.env)) (fun _ s' => SP X pins D .next s') (.ref L) ce (.error e) s'') u s' :=
    fun u s' x => block_raises hst hf cF cL tk hW I3 (fun b hb => (f3 b hb).1) x
  have loop : codeAny (model X.prog X.w) X.A (.compLoop (.ListComp elt [⟨tg, iter, [], 0⟩] scope pos) 0 (.ref it) (.ref L) ce) (compEnds (model X.prog X.w) X.A X.xe (some (assign (.Name y py) X.env)) (fun _ s' => SP X pins D .next s') (.ref L) ce) s4 := by
    refine compLoop_any (fun n s' => ∃ j H', Inv (X.blk s3 H3 scope ce fp) [] (wipe σ (own.map (·.2))) H' s' ∧ tn j s'.heap ∧ (∀ b ∈ fp, H' b = none) ∧ Wi j n H') ?_ m0 ⟨0, H3, I4, st4, fun b hb => (f3 b hb).1.1, w0⟩
    rintro n s5 ⟨j, H5, I5, st5, n5, w5⟩
    rcases turn j n H5 w5 with ⟨stop, qq⟩ | ⟨go, Nx, hNx, step⟩
    · refine thnF (T.done (X.blk s3 H3 scope ce fp) rfl rfl rfl hc j [] s5 _ H5 (fun _ _ => False) I5 (stat I5 n5) st5 stop) fun r s6 ⟨hr, I6⟩ => ?_
      subst hr
      -- the block is done: back in the def's own context, the list is stored
      have I7 : Inv X pins σ H5 s6 := I3.call' (ch := fp) I6.os I6.base I6.hok I6.bare fun b hb => ⟨(f3 b hb).1.2.2.2.1, (f3 b hb).1.2.1, (f3 b hb).1.2.2.2.2.1, (f3 b hb).1.2.2.2.2.2⟩
      have nC : H5 ce.locals = none := I6.free
      rw [cL] at nC
      obtain ⟨m, hn, _⟩ := I6.loc
      have hn : s6.heap.Ns ce.locals m := hn
      obtain ⟨c0, c1, c2, c3, c4, c5⟩ := I3.fpOk (Nat.le_refl _) nC
      show wpAny _ _ (assign (.Name y py) X.env (.ref L)) _ _ _
      refine wpAny_assign_Name (store_ok2 (v := V.ref L) I7 hN hy (.inl hyl) rfl (fun s7 I8 ⟨a, sb, ha⟩ => ?_) (.inr hyl))
      have hCa : ce.locals ≠ a := by
        rw [cL]
        rcases ha with z | z
        · rw [z]; exact c1
        · exact fun e => c4 y a z e.symm
      refine ⟨m, hn.sameBut sb hCa, fun h8 sb8 => ?_⟩
      rw [cL] at sb8
      exact ⟨_, H5, I8.turned (t' := s7.toks) (fun b o hb e => (sb8.2 b hb).trans e) c0 c1 c3 c4 c5, qq⟩
    · refine thnF (T.item (X.blk s3 H3 scope ce fp) rfl rfl rfl hc j [] s5 _ H5 (fun _ _ => False) I5 (stat I5 n5) st5 go) fun r s6 ⟨u, hr, h6⟩ => ?_
      subst hr
      refine thnF h6 fun _ s7 ⟨x, H7, I7, r7, y7, st7, n7⟩ => ?_
      have I7' := I7.pinned (stat I7 n7) (T.obj _ _ st7)
      refine thnF (pg.run _ s7 _ H7 x u _ I7' r7 (step x H7 y7)) fun _ s8 ⟨σ8, H8, I8, hw8, q8⟩ => ?_
      refine wpAny_tests_nil ?_
      have q8 : te σ8 H8 fun yv H4 => ∃ acc, H4 L = some (.lst acc) ∧ acc.length < sizeLine ∧ Nx (upd H4 L (.lst (acc ++ [yv]))) := q8
      rw [if_pos rfl]
      refine wpAny_mono (pe.run _ s8 σ8 H8 _ (I8.wish _) q8) (fun z s9 ⟨yv, H9, I9, r9, acc, hD9, hz9, nx⟩ => ?_) out
      refine app_ok (X := X.blk s3 H3 scope ce fp) I9.unwish hD9 hz9 r9 fun s10 I10 => ?_
      obtain ⟨m', hm, w'⟩ := hNx _ nx
      have pin' : ∀ b ∈ fp, ∀ o, s7.heap.get? b = some o → s10.heap.get? b = some o ∧ upd H9 L (.lst (acc ++ [yv])) b = none := fun b hb o e =>
        let z := I10.pin (b, o) (List.mem_append_right _ (List.mem_append_right _ (mem_pinsAt hb e)))
        ⟨z.1, z.2.1⟩
      refine ⟨m', hm, j + 1, _, (I10.unpinned (pins := [])).weak (by rw [← hw8, wipe_length]) (fun k v e => ?_), T.keep _ _ _ st7 fun b hb o e => (pin' b hb o e).1, fun b hb => ?_, w'⟩
      · rw [← hw8] at e
        exact (wipe_some e).1
      · obtain ⟨o, e, _⟩ := T.obj _ _ st7 b hb
        exact (pin' b hb o e).2
  exact codeAny_compStart_list loop (T.self X.A 0 _ _ _ st4 loop)
end
end Rt

/-! xs.extend(t), t a tuple -/
namespace PySem
namespace AutoSeq1
theorem rt_extend_tuple (l : Addr) (items : Array Value) (n : Nat) (b : Addr) (dd : Option Addr) (sl : Array (Option Value)) (items2 : Array Value) (n2 : Nat) (hs0 : ¬(!items.isEmpty && Builtin.List.listTooLong (items.size + items2.size)) = true) (hs1 : items.size ≤ sizeLine) (hs2 : items.size + items2.size ≤ sizeLine + 1) :
    Meets (Builtin.«list.extend» ⟨[.ref l, .ref b], []⟩) (fun _ R s => s.heap.get? l = some { cls := .type "list", dict := none, data := .seq items n, slots := #[] } ∧
      s.heap.get? b = some { cls := .type "tuple", dict := dd, data := .seq items2 n2, slots := sl } ∧ R (.ok (.ret Value.none)) { s with heap := s.heap.update l (Obj.mapSeq fun x => x ++ items2), toks := s.toks }) :=
  .of_wp fun prog w A R s h => by
    obtain ⟨hp, g, d, tk, os⟩ := s
    obtain ⟨hl, hb, h⟩ := h
    have f1 := idx_int; have f2 := sub_tuple_tuple; have f3 := sub_list_list; have f4 := sub_tuple_list; have f5 := sub_list_tuple
    have big : (items ++ items2).size ≤ sizeLine + 1 := by rw [Array.size_append]; exact hs2
    wp_walk using (wpAny_updateSeq hl rfl (hz := hs1) (_hz' := big)), wpAny_loadPart' hl, wpAny_loadPart' hb
    exact ⟨_, rfl, h⟩
end AutoSeq1
end PySem
namespace Rt
open PySem PySem.Spec PyProof.Rows L2
section
variable {X : Cx}
def rExtendT (K : PySem.W.Frag) : V → List V → Hp → VK → Prop := fun x vs H Q => ∃ l b xs zs, x = .ref l ∧ vs = [.ref b] ∧ H l = some (.lst xs) ∧ SqT K H b zs ∧ xs.length + zs.length ≤ sizeLine ∧ Q .non (upd H l (.lst (xs ++ zs)))
theorem mt_extendT : MtM X "list.extend" (rExtendT X.K) := by
  intro pins s σ H x vs v us Q I rx rv h
  obtain ⟨l, b, xs, zs, rfl, rfl, hH, hB, hz, q⟩ := h
  cases rx
  obtain ⟨u, rfl, ru⟩ := rv.one
  cases ru
  obtain ⟨z, its, n, r, hl, e⟩ := I.lstM hH
  obtain ⟨its2, r2, ⟨⟨c2, dd, dt, sl⟩, e2, hc2, n2, hd2⟩, z2⟩ := I.tuple hB
  have hc2 : c2 = .type "tuple" := hc2
  have hd2 : dt = .seq its2.toArray n2 := hd2
  subst hc2 hd2
  have hl2 := r2.length
  have hsz : its.toArray.size + its2.toArray.size ≤ sizeLine := by rw [List.size_toArray, List.size_toArray]; omega
  have hlong : ¬ (!its.toArray.isEmpty && Builtin.List.listTooLong (its.toArray.size + its2.toArray.size)) = true := by
    rw [notLongL hsz, Bool.and_false]
    exact Bool.false_ne_true
  refine call_meets F.slot_list_extend ⟨_, e, rfl⟩ F.entry_list_extend (F.args_list_extend_2 _ _)
    (AutoSeq1.rt_extend_tuple l its.toArray n b dd sl its2.toArray n2 hlong (by rw [List.size_toArray]; omega) (by omega)) ⟨e, e2, ?_⟩
  refine ⟨.non, _, I.lset (its' := its ++ its2) hH e (by simp) (r.append r2) ?_, rfl, q⟩
  rw [List.length_append]
  omega
end
end Rt

/-! set(xs) of a list of ints; sorted of a set of ints, however many -/
namespace Rt
open PySem PySem.Spec PyProof.Rows L2
section
variable {P : Program} {w : World} {A : Around} {E : Value → Shared → Prop} {s : Shared} {a : Addr}
theorem sorted_set_any {S : Int → Bool} {n : Nat} {Q : Value → Shared → Prop} (R : SetR w s.heap a S n) (hh : A.handled = none) (hn' : n ≤ 1000)
    (hQ : ∀ s' p (out : List Value) (c : Nat) (ns : List Int), (∀ b o, s.heap.get? b = some o → s'.heap.get? b = some o) → s'.gens = s.gens → s'.os = s.os → s.heap.objs.size ≤ p →
      s'.heap.get? p = some (seqObj "list" out.toArray c) → IntsAre out ns → ns.Pairwise (· < ·) → (∀ k, k ∈ ns ↔ S k = true) → ns.length = n → Q (.ref p) s') :
    wpAny (model P w) A (call (.builtin "sorted") [.ref a]) Q E s := by
  obtain ⟨o, es, ep, t, ho, hex, hd, g, nd, hm, hb, hf, hn, hr, hl⟩ := R
  refine Calls.call_function_entry kind_sorted plain_sorted entry_sorted (args_sorted1 _) ?_
  unfold Builtin.«sorted»
  refine wpAny_bind (m := checkCount "sorted" 1 1 _) (wpAny_pure ?_)
  refine wpAny_bind (collect_set (A := A.in1) hh ⟨o, ho, hex.1, hd⟩ hf hb hr hl fun s1 vs k1 hz g1 o1 pm => ?_)
  have hvl : vs.length = n := by rw [pm.length_eq, List.length_map, Array.length_toList]; exact hn
  have hI : IntsAre vs (vs.map Builtin.Re.reRawOf) := ints_of vs fun v hv => by
    obtain ⟨e, he, q⟩ := List.mem_map.mp (pm.mem_iff.mp hv)
    obtain ⟨k, tk, h1, _⟩ := g e he
    exact ⟨k, tk, by rw [← q]; exact h1⟩
  have pk : (vs.map Builtin.Re.reRawOf).Perm (es.toList.map keyOf) := by
    have q := pm.map Builtin.Re.reRawOf
    rw [List.map_map] at q
    exact q
  have room : vs.length ≤ sizeLine := by rw [hvl, sizeLine_eq]; omega
  refine wpAny_bind (wpAny_newList ?_ room)
  have hoL : (s1.heap.push (seqObj "list" vs.toArray 0)).get? s1.heap.objs.size = some (seqObj "list" vs.toArray 0) := Heap.get?_push_size _ rfl
  refine wpAny_bind (wpAny_holding (wpAny_call_entry slot_list_sort ⟨_, hoL, rfl⟩ entry_list_sort
    (SrtO.list_sort_ord SrtO.swo_int hoL room (fun h2 => SrtO.ints_sortable hI h2) fun out h1 h2 => ⟨_, rfl, ?_⟩) (args_list_sort _)))
  obtain ⟨i1, i2, i3⟩ := SrtO.ints_out hI h1 h2
  obtain ⟨c, hc⟩ := sortedHeap_at (vs := vs) (out := out.toArray) hoL
  have pn : (out.map SrtO.iv).Perm (es.toList.map keyOf) := i2.trans pk
  refine wpAny_pure ⟨_, rfl, hQ _ s1.heap.objs.size out c (out.map SrtO.iv) (fun b u e => ?_) g1 o1 hz hc i1 (lt_of_le_nodup _ i3 (pn.nodup_iff.mpr nd)) (fun k => by rw [pn.mem_iff, ← hm k]) ?_⟩
  · have q := k1 b u e
    have hlt := Heap.lt_size q
    show (sortedHeap (s1.heap.push (seqObj "list" vs.toArray 0)) s1.heap.objs.size vs out.toArray).get? b = some u
    rw [sortedHeap_old (Nat.ne_of_lt hlt) (by rw [size_push']; exact Nat.lt_succ_of_lt hlt)]
    exact Heap.get?_push_of_some _ q
  · rw [pn.length_eq, List.length_map, Array.length_toList]; exact hn

abbrev emptySet (w : World) : Obj := { cls := .type "set", dict := none, data := .set #[] 0 (.fresh 0 0 (!w.params.followText "set-order")) }
set_option maxHeartbeats 8000000 in
theorem set_of_list {l : Addr} {items : Array Value} (ns : List Int) {Q : Value → Shared → Prop} (hh : A.handled = none) (hl : s.heap.IsList l items) (hit : IntsAre items.toList ns) (hb : ns.length + 1 < scanBound)
    (h : ∀ (h' : Heap) (tk c : Nat), SetR w h' s.heap.objs.size (fun j => decide (j ∈ ns)) c → c ≤ ns.length → (∀ b o, s.heap.get? b = some o → h'.get? b = some o) → Q (.ref s.heap.objs.size) { s with heap := h', toks := tk }) :
    wpAny (model P w) A (call (.type "set") [.ref l]) Q E s := by
  have hisz : items.size = ns.length := by
    have q := IntsAre.length hit
    rw [Array.length_toList] at q
    exact q
  obtain ⟨c, tl, hmro⟩ := F.called_set.mro
  have hmade := F.called_set.made
  have hsub := F.called_set.sub
  refine wpAny_call (codeAny_of_tree ?_)
  show wpAny _ _ (callAny (.type "set") _) _ _ _
  refine wpAny_pure ⟨Code.quiet_builtin _ (by decide +kernel), codeAny_builtin F.entry_type_call ?_⟩
  rw [Around.under_plain (weight_type_call_type "set" [.ref l] []) rfl]
  have h1 := F.called_set.notType
  have h2 := F.called_set.canCreate
  have hct := F.typeCall_set_1 (.ref l)
  repeat (any_goals (first | assumption | wp_step))
  refine codeAny_mono (code_set_led1 (.ref l) (E := E) (Q₁ := fun obj s₁ => obj = .ref s.heap.objs.size ∧ s₁ = { s with heap := s.heap.push (emptySet w) }) ⟨rfl, rfl⟩) fun r s₁ hr => ?_
  rcases r with e | fl
  · exact hr
  cases fl with
  | ret obj =>
    obtain ⟨rfl, rfl⟩ := hr
    have hS : (s.heap.push (emptySet w)).get? s.heap.objs.size = some (emptySet w) := Heap.get?_push_size _ rfl
    have hT : Shared.TypeIs { s with heap := s.heap.push (emptySet w) } (.ref s.heap.objs.size) "set" := ⟨_, hS, rfl⟩
    have hli := F.called_set.init.lookup
    have hbi := F.called_set.init.bind (.ref s.heap.objs.size)
    repeat (any_goals (first | assumption | wp_step))
    refine codeAny_mono (codeAny_call_builtin (R := wants (fun r s₂ => r = .none ∧ ∃ h' tk c, s₂ = { s with heap := h', toks := tk } ∧ SetR w h' s.heap.objs.size (fun j => decide (j ∈ ns)) c ∧ c ≤ ns.length ∧
        (∀ b o, s.heap.get? b = some o → h'.get? b = some o)) E) F.called_set.init.plain F.entry_set_init (check_set_init_1 hT ?_)) fun r₂ s₂ hr₂ => ?_
    · obtain ⟨⟨ocls, odict, odata, oslots⟩, hol, hcl, nl, hdl⟩ := hl
      simp only at hcl hdl
      subst hcl hdl
      have hol' : (s.heap.push (emptySet w)).get? l = some { cls := .type "list", dict := odict, data := .seq items nl, slots := oslots } := Heap.get?_push_of_some _ hol
      have hsls := F.sub_list_set
      have hslf := F.sub_list_frozenset
      have hne : (Value.type "list" == Value.type "dict") = false := by decide
      have hl1 : (s.heap.push (emptySet w)).IsList l items := ⟨_, hol', rfl, nl, rfl⟩
      unfold Builtin.«set.__init__» noKeywords Builtin.Frozenset.updateFrom
      generalize hPI : pyIter = PI
      wp_walk
      subst hPI
      refine wpAny_pyIter_list hl1 ?_
      refine wpAny_bind (wpAny_runValue ?_)
      have hlS : l < s.heap.objs.size := Heap.lt_size hol
      have hh3 : A.in1.in1.in1.handled = none := by simp [hh]
      have hneI : l ≠ (s.heap.push (emptySet w)).objs.size := by
        rw [Heap.size_push]; exact Nat.ne_of_lt (Nat.lt_succ_of_lt hlS)
      have hSf : s.heap.objs.size ∉ [(s.heap.push (emptySet w)).objs.size, l] := by
        rw [Heap.size_push]; simp only [List.mem_cons, List.mem_singleton, List.not_mem_nil, or_false, not_or]
        exact ⟨Nat.ne_of_lt (Nat.lt_succ_self _), Nat.ne_of_gt hlS⟩
      have hval : ∀ (i : Nat) (v : Value), items[i]? = some v → ∃ k t, ns[i]? = some k ∧ v = .int k t := fun i v hv => by
        have hi : i < ns.length := by rw [← hisz]; exact (Array.getElem?_eq_some_iff.mp hv).1
        obtain ⟨t, e⟩ := PyProof.Rows.IntsAre.int_at hit i v (by rw [Array.getElem?_toList]; exact hv)
        refine ⟨ns[i], t, List.getElem?_eq_getElem hi, ?_⟩
        rw [e, List.getD_eq_getElem?_getD, List.getElem?_eq_getElem hi] <;> rfl
      refine set_update_ints ((Walks.list hh3 _ l hneI items).toS) s.heap.objs.size hSf ns hisz hb hval (items.size - 0) 0 _ (by omega) (Nat.zero_le _)
        ⟨⟨_, Heap.get?_push_size _ rfl, rfl, rfl⟩, (hl1.push _)⟩ ⟨0, Nat.le_refl 0, setR_new_at (Heap.get?_push_of_some _ hS)⟩ fun s' c' hm hc' hS' => ?_
      obtain ⟨h', g2, d', tk', os'⟩ := s'
      obtain rfl : g2 = s.gens := hm.gens
      obtain rfl : d' = s.drawn := hm.drawn
      obtain rfl : os' = s.os := hm.os
      show wpAny _ _ _ _ _ _
      refine wpAny_pure ?_
      show wpAny _ _ (ret Value.none) _ _ _
      rw [hisz] at hc'
      refine wpAny_pure ⟨rfl, h', tk', c', rfl, hS', hc', fun b o e => ?_⟩
      have hb0 : b < s.heap.objs.size := Heap.lt_size e
      have hb2 : b ≠ (s.heap.push (emptySet w)).objs.size := by rw [Heap.size_push]; exact Nat.ne_of_lt (Nat.lt_succ_of_lt hb0)
      exact hm.heap b o (by simp only [List.mem_cons, List.mem_singleton, List.not_mem_nil, or_false, not_or]; exact ⟨Nat.ne_of_lt hb0, hb2⟩) (Heap.get?_push_of_some _ (Heap.get?_push_of_some _ e))
    · rcases r₂ with e | fl₂
      · exact hr₂
      cases fl₂ with
      | ret r =>
        obtain ⟨rfl, h', tk, c', rfl, hS', hc', hk'⟩ := hr₂
        repeat (any_goals (first | assumption | wp_step))
        exact h _ _ _ hS' hc' hk'
      | _ => exact hr₂.elim
  | _ => exact hr.elim
end
section
variable {X : Cx}
/-- set(xs), xs ints -/
def rSetOfI (K : PySem.W.Frag) (w : World) : List V → Hp → VK → Prop := fun xs H Q => ∃ (l : Addr) (ns : List Int), xs = [.ref l] ∧ SqL K H l (ns.map V.int) ∧ ns.length ≤ 1000 ∧
  ∀ p c, H p = none → c ≤ ns.length → Q (.ref p) (upd H p (SetO w p (fun j => decide (j ∈ ns)) c))
theorem cr_setOfI (hc : X.calm = true) : CallR X (.type "set") (rSetOfI X.K X.w) := by
  intro pins s σ H xs us Q I r h
  obtain ⟨l, ns, rfl, hq, hz, q⟩ := h
  rw [Vals.ref1 r]
  obtain ⟨its, rv, pl, _⟩ := I.list hq
  refine set_of_list ns (I.ok.hd hc) pl.isList (by simpa using rv.ints) (by unfold scanBound; omega) fun h' tk c hS hc' k => ?_
  exact ⟨.ref _, upd H s.heap.objs.size (SetO X.w s.heap.objs.size (fun j => decide (j ∈ ns)) c), I.laid (t' := tk) k (Nat.le_refl _) (setO_new hS), rfl, q _ c (I.hok.fresh (Nat.le_refl _)) hc'⟩
/-- sorted(found), a set of ints -/
def rSortedSetA (w : World) : List V → Hp → VK → Prop := fun vs H Q => ∃ (a : Addr) (S : Int → Bool) (n : Nat), vs = [V.ref a] ∧ H a = some (SetO w a S n) ∧ n ≤ 1000 ∧
  ∀ (ns : List Int) (p : Addr), ns.Pairwise (· < ·) → (∀ k : Int, k ∈ ns ↔ S k = true) → ns.length = n → H p = none → Q (.ref p) (upd H p (.lst (ns.map V.int)))
theorem cr_sortedSetA (hc : X.calm = true) : CallR X (.builtin "sorted") (rSortedSetA X.w) := by
  intro pins s σ H vs us Q I r h
  obtain ⟨a, S, n, rfl, ha, hz, q⟩ := h
  rw [Vals.ref1 r]
  refine sorted_set_any (setO_get I ha) (I.ok.hd hc) hz fun s' p out c ns k g o hp hg hi hs hm hl => ?_
  have hlen : (ns.map V.int).length ≤ sizeLine := by rw [List.length_map, hl, sizeLine_eq]; omega
  have hn : H p = none := I.hok.fresh hp
  have J : Inv X pins σ (upd H p (.lst (ns.map V.int))) { s with heap := s'.heap, gens := s'.gens, drawn := s'.drawn, toks := s'.toks } :=
    I.call (ch := []) (Un.laid k hp hn) (I.hok.laid k hp ⟨hlen, out, c, vals_of_ints hi, hg⟩) (by rw [g]; exact I.bare) (fun _ z => nomatch z)
  have e : s' = { s with heap := s'.heap, gens := s'.gens, drawn := s'.drawn, toks := s'.toks } := by
    cases s'
    cases s
    cases o
    rfl
  rw [e]
  exact ⟨.ref p, _, J, rfl, q ns p hs hm hl hn⟩
end
end Rt

/-! dicts with tuple keys: setdefault; sorted(d), the keys pairs of ints -/
namespace Rt
open PySem PySem.Spec PyProof.Rows L2
section
variable {X : Cx}
def rSetdefT : V → List V → Hp → VK → Prop := fun x xs H Q => ∃ (a : Addr) (kvs : List (List L2.Key × V)) (k : List L2.Key) (b : Addr) (d : V), x = .ref a ∧ xs = [.ref b, d] ∧ H a = some (.dT kvs) ∧ H b = some (.tup (k.map kV)) ∧ kvs.length < sizeLine ∧
  (∀ v, valV kvs k = some v → Q v H) ∧ (valV kvs k = none → Q d (upd H a (.dT (putK kvs k d))))
theorem mt_setdefT (hu : X.A.units + 1 < cLine) : MtR X "dict.setdefault" rSetdefT := by
  intro pins s σ H x xs v us Q I rx rxs h
  obtain ⟨a, kvs, k, b, d, rfl, rfl, ha, hb, hl, q1, q2⟩ := h
  cases rx
  obtain ⟨u1, u2, rfl, r1, r2⟩ := vals2 rxs
  cases r1
  obtain ⟨z, hd, xs', rel, dd⟩ := dt_of I.hok ha
  have hz : xs'.length ≤ sizeLine := by rw [← Paired.length rel]; exact z
  have r := rel.val k
  refine call_setdefault_heap (tupleKind_room_in1 hu) (key_of I.hok hb) hd dd (fun p hp => ?_) (fun hn h' dd' hs => ?_) hz
  · rw [hp] at r
    cases ev : valV kvs k with
    | none =>
      rw [ev] at r
      exact (show False from r).elim
    | some v0 =>
      rw [ev] at r
      exact ⟨v0, H, I.tok _, r, q1 v0 ev⟩
  · rw [hn] at r
    have e : valV kvs k = none := by
      cases ev : valV kvs k with
      | none => rfl
      | some v0 =>
        rw [ev] at r
        exact (show False from r).elim
    have hl2 : (putK kvs k d).length ≤ sizeLine := by have := length_putK kvs k d; omega
    obtain ⟨o, es, ep, hq, h2, h3, h4, _, h5⟩ := dd'
    have J : Inv X pins σ (upd H a (.dT (putK kvs k d))) { s with heap := h', toks := s.toks + (tupleKind (mixKind X.prog X.w)).draws k } :=
      d_write I (by rw [ha]; exact True.intro) hs ⟨o, hq⟩ (show ObjOk X.prog X.w _ h' a (.dT (putK kvs k d)) from ⟨hl2, hd, _, (rel.put k hb r2).keeps fun c ys ec => (by rw [upd_ne (ne_of ec ha (fun z => nomatch z))]; exact ec), o, es, ep, hq, h2, h3, h4, h5⟩)
    exact ⟨d, _, J, r2, q2 e⟩

/-- the pair of ints that stands at a value -/
def pairAt (H : Hp) (v : Value) : Int × Int := match v with
  | .ref a => (match H a with
    | some (.tup [.int i, .int j]) => (i, j)
    | _ => (0, 0))
  | _ => (0, 0)
abbrev PairsAt (H : Hp) : List Addr → List (Int × Int) → Prop := Paired fun a q => H a = some (.tup [.int q.1, .int q.2])
def leP (p q : Int × Int) : Prop := p.1 < q.1 ∨ (p.1 = q.1 ∧ p.2 ≤ q.2)
theorem pairsAt_of {H : Hp} : ∀ {ps : List (Int × Int)} {kvs : List (List L2.Key × V)} {bs : List Addr}, kvs.map (·.1) = ps.map (fun p => [Sum.inl p.1, Sum.inl p.2]) → IsKeys H kvs bs → PairsAt H bs ps
  | [], [], _, _, h => by cases h; exact .nil
  | [], _ :: _, _, e, _ => by simp at e
  | _ :: _, [], _, e, _ => by simp at e
  | p :: ps, kv :: kvs, _, e, h => by
    cases h with
    | cons h1 h2 =>
      rw [List.map_cons, List.map_cons] at e
      obtain ⟨e1, e2⟩ := List.cons.inj e
      refine .cons ?_ (pairsAt_of e2 h2)
      rw [e1] at h1
      exact h1
theorem pairAt_map {H : Hp} : ∀ {bs : List Addr} {ps : List (Int × Int)}, PairsAt H bs ps → (bs.map Value.ref).map (pairAt H) = ps
  | _, _, .nil => rfl
  | _, _, .cons (a := a) (b := q) h t => by
    rw [List.map_cons, List.map_cons, pairAt_map t]
    refine congrArg (· :: _) ?_
    show (match H a with
      | some (.tup [.int i, .int j]) => (i, j)
      | _ => ((0, 0) : Int × Int)) = q
    rw [h]
theorem pairs_mem {H : Hp} : ∀ {bs : List Addr} {ps : List (Int × Int)}, PairsAt H bs ps → ∀ a ∈ bs, ∃ i j, H a = some (.tup [.int i, .int j])
  | _, _, .nil, a, h => absurd h (by simp)
  | _, _, .cons h t, a, m => by
    rcases List.mem_cons.mp m with e | m
    · rw [e]; exact ⟨_, _, h⟩
    · exact pairs_mem t a m
theorem refs_of : ∀ {vs : List Value}, (∀ v ∈ vs, ∃ a, v = Value.ref a) → ∃ as : List Addr, vs = as.map Value.ref
  | [], _ => ⟨[], rfl⟩
  | v :: vs, h => by
    obtain ⟨a, e⟩ := h v List.mem_cons_self
    obtain ⟨as, e2⟩ := refs_of fun u hu => h u (List.mem_cons_of_mem _ hu)
    exact ⟨a :: as, by rw [e, e2]; rfl⟩
theorem pairs_back {H : Hp} : ∀ {as : List Addr}, (∀ a ∈ as, ∃ i j, H a = some (.tup [.int i, .int j])) → PairsAt H as ((as.map Value.ref).map (pairAt H))
  | [], _ => .nil
  | a :: as, h => by
    obtain ⟨i, j, e⟩ := h a List.mem_cons_self
    refine .cons ?_ (pairs_back fun b hb => h b (List.mem_cons_of_mem _ hb))
    have : pairAt H (Value.ref a) = (i, j) := by
      show (match H a with
        | some (.tup [.int i, .int j]) => (i, j)
        | _ => ((0, 0) : Int × Int)) = (i, j)
      rw [e]
    rw [this]
    exact e
/-- sorted(d) -/
def rSortedDT : List V → Hp → VK → Prop := fun vs H Q => ∃ (d : Addr) (kvs : List (List L2.Key × V)) (ps : List (Int × Int)), vs = [V.ref d] ∧ H d = some (.dT kvs) ∧ kvs.map (·.1) = ps.map (fun p => [Sum.inl p.1, Sum.inl p.2]) ∧
  ∀ (qs : List (Int × Int)) (as : List Addr) (p : Addr), qs.Perm ps → qs.Pairwise leP → PairsAt H as qs → H p = none → Q (.ref p) (upd H p (.lst (as.map V.ref)))
theorem cr_sortedDT (hc : X.calm = true) : CallR X (.builtin "sorted") rSortedDT := by
  intro pins s σ H vs us Q I r h
  obtain ⟨d, kvs, ps, rfl, hd, hk, q⟩ := h
  rw [Vals.ref1 r]
  obtain ⟨z, hs, ks, pr, o, es, ep, ho, hx, hdt, he, hn⟩ := (show ObjOk X.prog X.w H s.heap d (.dT kvs) from I.hok d _ hd)
  have l1 : es.size = ks.length := size_of_entries he
  have l2 : kvs.length = ks.length := Paired.length pr
  have PA : PairsAt H (ks.map fun x => x.2.1) ps := pairsAt_of hk (isKeys_of pr)
  refine Calls.call_function_entry kind_sorted plain_sorted entry_sorted (args_sorted1 _) ?_
  unfold Builtin.«sorted»
  refine wpAny_bind (m := checkCount "sorted" 1 1 _) (wpAny_pure ?_)
  refine wpAny_bind (PySem.W.kdu_collect (A := X.A.in1) (kdl_raw hs hx hdt) (I.ok.hd hc) ho (by omega) fun h1 tk acc kp it => ?_)
  have ea : acc.toList = (ks.map fun x => x.2.1).map Value.ref := by
    have hl : acc.toList.length = ks.length := by rw [Array.length_toList, it.1]; exact l1
    rw [List.map_map]
    apply List.ext_getElem?
    intro j
    rw [List.getElem?_map]
    cases hj : acc.toList[j]? with
    | none =>
      have h1 := List.getElem?_eq_none_iff.mp hj
      rw [List.getElem?_eq_none (by omega)]
      rfl
    | some v =>
      obtain ⟨en, hen, hv⟩ := it.2 j v (by rw [← Array.getElem?_toList]; exact hj)
      have qe := entry_at he j
      rw [hen] at qe
      cases hb : ks[j]? with
      | none =>
        rw [hb] at qe
        exact nomatch (show some en = none from qe)
      | some b =>
        rw [hb] at qe
        have qe := Option.some.inj qe
        show some v = some (Value.ref b.2.1)
        rw [hv, qe]
        rfl
  generalize hvs : acc.toList = vs at ea
  have hvl : vs.length = ks.length := by rw [ea, List.length_map, List.length_map]
  have room : vs.length ≤ sizeLine := by omega
  have hp1 : ∀ {h' : Heap}, (∀ b ob, s.heap.get? b = some ob → h'.get? b = some ob) → ∀ v ∈ vs, Srt.IsPair h' v (pairAt H v).1 (pairAt H v).2 := fun {h'} k v hv => by
    rw [ea] at hv
    obtain ⟨a, ha, rfl⟩ := List.mem_map.mp hv
    obtain ⟨i, j, e⟩ := pairs_mem PA a ha
    have ep : pairAt H (Value.ref a) = (i, j) := by
      show (match H a with
        | some (.tup [.int i, .int j]) => (i, j)
        | _ => ((0, 0) : Int × Int)) = (i, j)
      rw [e]
    rw [ep]
    obtain ⟨_, its2, r2, ob, hob, hcl, n, hda⟩ := I.hok _ _ e
    obtain ⟨u1, u2, rfl, ri, rj⟩ := vals2 r2
    obtain ⟨t1, rfl⟩ := ri
    obtain ⟨t2, rfl⟩ := rj
    exact ⟨a, ob, t1, t2, n, rfl, k _ _ hob, hcl, hda⟩
  refine wpAny_bind (wpAny_newList ?_ room)
  have hoL : (h1.push (seqObj "list" vs.toArray 0)).get? h1.objs.size = some (seqObj "list" vs.toArray 0) := Heap.get?_push_size _ rfl
  have kp2 : ∀ b ob, s.heap.get? b = some ob → (h1.push (seqObj "list" vs.toArray 0)).get? b = some ob := fun b ob e => Heap.get?_push_of_some _ (kp b ob e)
  refine wpAny_bind (wpAny_holding (wpAny_call_entry slot_list_sort ⟨_, hoL, rfl⟩ entry_list_sort
    (SrtO.list_sort_ord (SrtO.swo_lex fun u => pairAt H u) hoL room (fun h2 => SrtO.pairs_sortableO (by omega) (hp1 kp2) fun ob e => ?_) fun out o1 o2 => ⟨_, rfl, ?_⟩) (args_list_sort _)))
  · have e' : some ob = some (seqObj "list" vs.toArray 0) := e.symm.trans hoL
    cases e'
    intro c
    exact absurd (Value.type.inj c) (by decide)
  · obtain ⟨c, hcc⟩ := sortedHeap_at (vs := vs) (out := out.toArray) hoL
    have pm : out.Perm vs := o2.perm
    obtain ⟨as, eas⟩ := refs_of (vs := out) fun v hv => by
      have := pm.mem_iff.mp hv
      rw [ea] at this
      obtain ⟨a, _, e⟩ := List.mem_map.mp this
      exact ⟨a, e.symm⟩
    have pas : ∀ a ∈ as, ∃ i j, H a = some (.tup [.int i, .int j]) := fun a ha => by
      have : Value.ref a ∈ out := by rw [eas]; exact List.mem_map.mpr ⟨a, ha, rfl⟩
      have := pm.mem_iff.mp this
      rw [ea] at this
      obtain ⟨a', ha', e⟩ := List.mem_map.mp this
      cases e
      exact pairs_mem PA a ha'
    have I1 : Inv X pins σ H { s with heap := h1, toks := tk } := I.kept kp
    have e1 : (out.map (pairAt H)).Perm ps := by
      have q := pm.map (pairAt H)
      rw [ea, pairAt_map PA] at q
      exact q
    have e2 : (out.map (pairAt H)).Pairwise leP := List.pairwise_map.mpr (o1.imp fun {x y} h => by
      have h : SrtO.lexB (pairAt H y) (pairAt H x) = false := h
      have h' : ¬ ((pairAt H y).1 < (pairAt H x).1 ∨ ((pairAt H y).1 = (pairAt H x).1 ∧ (pairAt H y).2 < (pairAt H x).2)) := fun w => by
        have := SrtO.lexB_iff.mpr w
        rw [h] at this
        cases this
      show _ ∨ _
      omega)
    have hpf : H h1.objs.size = none := I1.hok.fresh (Nat.le_refl _)
    refine wpAny_pure ⟨_, rfl, ?_⟩
    have J : Inv X pins σ (upd H h1.objs.size (.lst (as.map V.ref))) { s with heap := sortedHeap (h1.push (seqObj "list" vs.toArray 0)) h1.objs.size vs out.toArray, toks := tk } :=
      I1.laid (t' := tk) (fun b u e => by
        have ltb : b < h1.objs.size := Heap.lt_size e
        rw [sortedHeap_old (Nat.ne_of_lt ltb) (by rw [size_push']; exact Nat.lt_succ_of_lt ltb)]
        exact Heap.get?_push_of_some _ e) (Nat.le_refl _) ⟨by rw [List.length_map]; have := pm.length_eq; rw [eas, List.length_map] at this; omega, out, c, by rw [eas]; exact vals_refs as, hcc⟩
    refine ⟨.ref h1.objs.size, _, J, rfl, q (out.map (pairAt H)) as h1.objs.size e1 e2 ?_ hpf⟩
    rw [eas]
    exact pairs_back pas
end
end Rt

/-! The own error Refused with its field why: the block of skel/42 (its class named Refused, its field why) -/
namespace PySem
namespace LowX
open PySem.W PySem.Calls PyProof.Rows PySem.HandSPX
/-! ### the text of __init__ -/
def iA (p1 p2 : Pos) : Arguments := { posonlyargs := [], args := [{ arg := "self", annotation := none, pos := p1 }, { arg := "why", annotation := none, pos := p2 }], vararg := none, kwonlyargs := [], kw_defaults := [], kwarg := none, defaults := [] }
def iB (q1 q2 q3 q4 : Pos) : List Stmt := [.Assign [.Attribute (.Name "self" q1) "why" q2] (.Name "why" q3) q4]
def iS : Scope := { kind := .function, names := [(PySem.Str.ofString "self", .local), (PySem.Str.ofString "why", .local)], isGenerator := false, isCoroutine := false, more := [] }
/-- what the written part says of Low, at C, and of its __init__, at fI -/
structure LowTxt (K : Frag) (mg : Str → Option Value) (C fI : Addr) : Prop where
  gC : mg "Refused" = some (.ref C)
  cls : ∃ nm q N bs bm sn sub ab col dd k0 k1 k2 k3 k5, K.lookup C = some (excClassObj nm q C N bs bm true sn sub ab col dd k0 k1 k2 k3 k5 "ValueError.__new__") ∧ refsVE bm = true
  sa : findIn K (.ref C) "__setattr__" = some (some (.builtin "object.__setattr__"))
  ga : findIn K (.ref C) "__getattribute__" = some (some (.builtin "BaseException.__getattribute__"))
  gg : findIn K (.ref C) "__getattr__" = some none
  noN : findIn K (.ref C) "why" = some none
  iC : findIn K (.ref C) "__init__" = some (some (.ref fI))
  tC : typeIn K (.ref fI) = some (.type "function")
  kC : keepIn K (.ref C) = true
  exC : subIn K (.ref C) (.type "BaseException") = some true
  tyC : typeIn K (.ref C) = some (.type "type")
  hdC : hasDictIn K C = true
  te : exmOne K (.ref C) (.ref C) = some true
  fn : ∃ (oc : Value) (od : Option Addr) (doc pm : Value) (an : Option Addr) (cdv ct : Value) (osl : Array (Option Value)) (p1 p2 q1 q2 q3 q4 : Pos),
    K.lookup fI = some ⟨oc, od, .func (fnOf "__init__" "Refused.__init__" (iA p1 p2) (iB q1 q2 q3 q4) iS .none .none doc pm an cdv ct), osl⟩ ∧ codeIn K cdv "Refused.__init__" = true
theorem one_size (v : Value) : [v].length ≤ sizeLine := by
  rw [sizeLine_eq]
  exact (by decide : 1 ≤ 16777216)
theorem kept_but {K : Frag} {h h' : Heap} {x : Addr} (X : K.In h) (hx : K.lookup x = none) (k : ∀ b o, b ≠ x → h.get? b = some o → h'.get? b = some o) : K.In h' := fun a o e =>
  k a o (fun z => by rw [z, hx] at e; cases e) (X a o e)
theorem ldC {M : Model} {s : Shared} {name : Str} {scope : Scope} {L a : Addr} {cd : Value} {m : Str → Option Value} {x : Str} {pos : Pos} {v : Value} {Q : Value → Shared → Prop} {A : Around} {E : Value → Shared → Prop} (hn : s.heap.Ns L m) (hv : m x = some v) (h : Q v s)
    (hk : scope.kind = .function := by rfl) (hl : (envOfC name scope L a cd).kindOf x = some .local := by rfl) (hd : (x == ("__debug__" : Str)) = false := by decide) :
    wpAny M A (eval (.Name x pos) (envOfC name scope L a cd)) Q E s := wpAny_Name (wpAny_loadName_local hk hl hn hv h) hd
/-- what __init__ leaves of a fresh exception at x -/
structure InitEnd (h h' : Heap) (x C dx t1 : Addr) (v : Value) : Prop where
  keep : ∀ b o, b ≠ x → h.get? b = some o → h'.get? b = some o
  obj : h'.get? x = some { cls := .ref C, dict := some dx, data := .fields #[.ref t1, .none, .none, .none, .bool false, .none] }
  dbig : h.objs.size ≤ dx
  dne : dx ≠ x
  ns : h'.Ns1 dx (fun y => if y = "why" then some v else none)
/-- a made Low -/
structure OwnMade (h h' : Heap) (e C d : Addr) (v : Value) : Prop where
  keep : ∀ b o, h.get? b = some o → h'.get? b = some o
  new : h.objs.size ≤ e
  obj : ∃ oe vs, h'.get? e = some oe ∧ oe.cls = .ref C ∧ oe.dict = some d ∧ oe.data = .fields vs ∧ vs[1]? = some .none
  dbig : h.objs.size ≤ d
  dne : d ≠ e
  ns : h'.Ns1 d (fun y => if y = "why" then some v else none)
section
variable {prog : Program} {w : World} {A : Around} {E : Value → Shared → Prop} {R : Result → Shared → Prop} {s : Shared} {K : Frag} {mg : Str → Option Value} {C fI : Addr}
theorem low_init (T : LowTxt K mg C fI) {x t0 : Addr} {v : Value} (X : K.In s.heap) (hlim : s.heap.NoLimit) (hx : s.heap.get? x = some (excO C t0)) (hnx : K.lookup x = none) (hroom : A.depth < recursionLimit)
    (hq : ∀ h' tk dx, InitEnd s.heap h' x C dx t0 v → R (.ok (.ret .none)) { s with heap := h', toks := tk }) :
    codeAny (model prog w) A (.call (.ref fI) ⟨[.ref x, v], []⟩) R s := by
  obtain ⟨oc, od, doc, pm, an, cdv, ct, osl, p1, p2, q1, q2, q3, q4, ho, hcd⟩ := T.fn
  obtain ⟨nm, q, N, bs, bm, sn, sub, ab, col, dd, k0, k1, k2, k3, k5, hC, hbm⟩ := T.cls
  have hcl : clsIn K C = some { name := nm, bases := bs, mro := .ref C :: bm, ns := N, qualname := q, hasDict := true, slotNames := sn, subclasses := sub, abstract := ab, collection := col, hasDel := false } := by unfold clsIn; rw [hC] <;> rfl
  refine Att.call_fn (binds := [("self", .ref x), ("why", v)]) X hlim ho hcd hroom (BindsTo.of_eq (by first | rfl | with_unfolding_all rfl)) (by first | rfl | decide | with_unfolding_all rfl) (fun s₁ IC => ?_) rfl rfl rfl
  obtain ⟨h₁, tk₁, rfl⟩ := IC.toInCall.same
  have k : ∀ b o, s.heap.get? b = some o → h₁.get? b = some o := IC.toInCall.keep
  have hn := IC.toInCall.ns
  have hxL : s.heap.objs.size ≠ x := Nat.ne_of_gt (Heap.lt_size hx)
  have X₁ : K.In h₁ := X.keeps k
  have hx₁ := k _ _ hx
  -- self.by = by
  show wpAny _ _ (execs _ _) _ _ _
  refine wpAny_execs_cons (plainObj_wpAny_Assign_Attribute ?_)
  refine ldC (v := v) hn (by first | rfl | with_unfolding_all rfl | kernel_rfl) (ldC (v := .ref x) hn (by first | rfl | with_unfolding_all rfl | kernel_rfl) ?_)
  refine set_plain X₁ (ox := excO C t0) (od := none) ⟨hx₁, rfl, rfl, trivial⟩ T.sa ?_
  refine exc_osa X₁ hx₁ hcl (show refsVE (.ref C :: bm) = true from hbm) rfl T.noN (fun h₃ tk₃ dx k₃ dn dne hx₃ hn₃ => ?_)
  show wpAny _ _ (execs _ _) _ _ _
  have z : s.heap.objs.size < h₁.objs.size := hn.lt
  exact wpAny_execs_nil (hq h₃ tk₃ dx ⟨fun b o hb e => k₃ b o hb (k b o e), hx₃, Nat.le_of_lt (Nat.lt_of_lt_of_le z dn), dne, hn₃⟩)
theorem low_made (T : LowTxt K mg C fI) {v : Value} (X : K.In s.heap) (hlim : s.heap.NoLimit) (hroom : A.depth + 1 < recursionLimit)
    (hq : ∀ h' tk e d, OwnMade s.heap h' e C d v → R (.ok (.ret (.ref e))) { s with heap := h', toks := tk }) :
    codeAny (model prog w) A (.call (.ref C) ⟨[v], []⟩) R s := by
  obtain ⟨nm, q, N, bs, bm, sn, sub, ab, col, dd, k0, k1, k2, k3, k5, hC, hbm⟩ := T.cls
  obtain ⟨hp, g, dr, tk, os⟩ := s
  have k : ∀ b o, hp.get? b = some o → ((hp.push (kdv_tup [v])).push (excO C hp.objs.size)).get? b = some o := fun b o e => Heap.get?_push_of_some _ (Heap.get?_push_of_some _ e)
  have hget : ((hp.push (kdv_tup [v])).push (excO C hp.objs.size)).get? (hp.objs.size + 1) = some (excO C hp.objs.size) := by heap_get
  have hnx : K.lookup (hp.objs.size + 1) = none := by
    cases e : K.lookup (hp.objs.size + 1) with
    | none => rfl
    | some o =>
      have z : hp.get? (hp.objs.size + 1) = some o := X _ _ e
      exact absurd (Nat.lt_of_succ_lt (Heap.lt_size z)) (Nat.lt_irrefl _)
  refine call_own F.excBase_ValueError (fun X => refsVE_contains X bm hbm) (X _ _ hC) (looks_findIn X T.iC) (fun self => bind_fn X self T.tC) (one_size v) ?_
  refine low_init (s := ⟨(hp.push (kdv_tup [v])).push (excO C hp.objs.size), g, dr, tk, os⟩) T (X.keeps k) (hlim.keeps k) hget hnx ?_ fun h' tk' dx ⟨k', hx, dn, dne, hns⟩ => ?_
  · show A.depth + 1 < recursionLimit
    exact hroom
  · have old : ∀ b o, hp.get? b = some o → h'.get? b = some o := fun b o e => k' b o (Nat.ne_of_lt (Nat.lt_succ_of_lt (Heap.lt_size e))) (k b o e)
    have z : hp.objs.size + 1 + 1 ≤ dx := by
      first
        | (simpa only [Heap.size_push] using dn)
        | exact dn
        | (have q := dn; rw [Heap.size_push, Heap.size_push] at q; exact q)
    exact ⟨rfl, hq h' tk' (hp.objs.size + 1) dx ⟨old, Nat.le_succ _, ⟨_, _, hx, rfl, rfl, rfl, rfl⟩, Nat.le_trans (Nat.le_trans (Nat.le_succ _) (Nat.le_succ _)) z, dne, hns⟩⟩
end
end LowX
end PySem
namespace L2
open PySem PySem.Spec PyProof.Rows
theorem relO_low {v : V} {v' : Value} (r : RelV v v') (f : Str) : RelO (List.lookup f [(("why" : Str), v)]) (if f = "why" then some v' else none) := by
  by_cases hw : f = "why"
  · subst hw
    rw [if_pos rfl]
    have q : List.lookup ("why" : Str) [(("why" : Str), v)] = some v := by simp [List.lookup]
    rw [q]
    exact r
  · rw [if_neg hw]
    have qw : (f == ("why" : Str)) = false := by simpa using hw
    have q2 : List.lookup f [(("why" : Str), v)] = none := by simp [List.lookup, qw]
    rw [q2]
    trivial
section
variable {X : Cx} {C fI : Addr}
/-- Low(e) -/
def tMkLow (C : Addr) (ta : TA) : St → Hp → XK → Prop := fun σ H Q => ta σ H fun vs H1 => ∃ v, vs = [v] ∧ ∀ d, H1 d = none → Q (.ref C) (some d) (upd H1 d (.xd [(("why" : Str), v)]))
theorem pmk_low {a : Expr} {ta : TA} {p pos : Pos} {k : Nat} (T : PySem.LowX.LowTxt X.K X.mg C fI) (hr : Room k X.A) (ha : PA X [a] ta) (hg : Gl X "Refused" := by rfl)
    (he : starEach (a :: []) X.env = (false, eval a X.env) :: starEach [] X.env := by rfl) (hpl : (backTo pos (starEach [] X.env)).any (·.1) = false := by rfl) :
    PMk X (.Call (.Name "Refused" p) [a] [] pos) (tMkLow C ta) := by
  intro pins s σ H Q I h
  refine wpAny_Call_Name_kw (ld_glob I hg T.gC ?_)
  refine PySem.W.callWith_K (h₀ := X.base) I.ok.mod.kin T.kC (thn (ha.run pos pins s σ H _ I h) fun us s1 hh => ?_) he hpl
  obtain ⟨vs, H1, I1, r1, v, ev, q1⟩ := hh
  subst ev
  refine ⟨I1.kIn, ?_⟩
  cases r1 with
  | cons rv rn =>
    rename_i v' us'
    cases rn
    show wpAny _ _ (call (.ref C) [v']) _ _ _
    have hlim := I1.nolimit
    obtain ⟨hp, g, dr, tk, os⟩ := s1
    refine wpAny_call (PySem.LowX.low_made T I1.kIn hlim (by have := hr.dp; omega) fun h' tk' e d M => ?_)
    show MkP X pins σ Q (.ref e) ⟨h', g, dr, tk', os⟩
    obtain ⟨oe, fv, hoe, hc, hd, hdat, h1⟩ := M.obj
    have hns := M.ns
    obtain ⟨G', g1, g2⟩ := restrict h' fun b => decide (b ≠ e)
    have gk : ∀ b, b ≠ e → G'.get? b = h'.get? b := fun b hb => g1 b (decide_eq_true hb)
    have ge : G'.get? e = none := g2 e (by simp)
    have old : ∀ b o, hp.get? b = some o → G'.get? b = some o := fun b o q => (gk b (Nat.ne_of_lt (Nat.lt_of_lt_of_le (Heap.lt_size q) M.new))).trans (M.keep b o q)
    have ob : ObjOk X.prog X.w (upd H1 d (.xd [(("why" : Str), v)])) G' d (.xd [(("why" : Str), v)]) :=
      ⟨_, hns.at (fun o q => (gk d M.dne).trans q), fun f => relO_low rv f⟩
    have J : Inv X pins σ (upd H1 d (.xd [(("why" : Str), v)])) ⟨G', g, dr, tk', os⟩ := I1.laid (t' := tk') old M.dbig ob
    refine ⟨e, oe, fv, ⟨G', g, dr, tk', os⟩, _, .ref C, some d, rfl, J, fun b o q => ?_, ge, hoe, ⟨hc, hd⟩, hdat, h1, ?_, rfl, I1.bare, raises_own T.exC T.tyC, q1 d (I1.hok.fresh M.dbig)⟩
    · by_cases hb : b = e
      · have q' : G'.get? b = some o := q
        rw [hb, ge] at q'; cases q'
      · exact (gk b hb).symm.trans q
    · rw [upd_ne (Ne.symm M.dne)]
      exact I1.hok.fresh M.new
/-- raise Low(e) -/
def tRaiseLow (C : Addr) (W : WX) (ta : TA) : TS := fun _ σ H => tMkLow C ta σ H fun cls d H' => W cls d σ H'
theorem ps_raiseLow {a : Expr} {ta : TA} {W : WX} {p pos pos2 : Pos} {k : Nat} (hc : X.calm = true) (T : PySem.LowX.LowTxt X.K X.mg C fI) (hr : Room k X.A) (tk : Takes X W) (ha : PA X [a] ta) (hg : Gl X "Refused" := by rfl)
    (he : starEach (a :: []) X.env = (false, eval a X.env) :: starEach [] X.env := by rfl) (hpl : (backTo pos (starEach [] X.env)).any (·.1) = false := by rfl) :
    PS X (.Raise (some (.Call (.Name "Refused" p) [a] [] pos)) none pos2) (tRaiseLow C W ta) := ps_raise hc tk (pmk_low T hr ha hg he hpl)
/-- low.by, low the exception that the suite holds (at a; its class cls, its dict d) -/
def tByLow (C : Addr) (a : Addr) (cls : Value) (d : Option Addr) (te : TE) : TE := fun σ H Q => te σ H fun x H1 => x = .ref a ∧ cls = .ref C ∧ ∃ (dd : Addr) (v : V), d = some dd ∧ H1 dd = some (.xd [(("why" : Str), v)]) ∧ Q v H1
theorem pe_byLow {a : Addr} {oe : Obj} {cls : Value} {d : Option Addr} {pn : List (Addr × Obj)} {e : Expr} {te : TE} {pos : Pos} (T : PySem.LowX.LowTxt X.K X.mg C fI) (hz : Zc cls d oe) (hf : ∃ vs, oe.data = .fields vs) (he : PE (X.suite a ((a, oe) :: pn)) e te)
    (hb : attributeBase e "why" X.env (eval e X.env) = eval e X.env := by rfl) :
    PE (X.suite a ((a, oe) :: pn)) (.Attribute e "why" pos) (tByLow C a cls d te) := by
  refine ⟨fun pins s σ H Q I h => ?_⟩
  refine attr_of hb (thn (he.run pins s σ H _ I h) fun u s1 hh => ?_)
  obtain ⟨x, H1, I1, rx, ex, ec, dd, v, ed, ea, q⟩ := hh
  subst ex
  obtain rfl : u = Value.ref a := rx
  subst ec
  subst ed
  obtain ⟨ha, _⟩ := I1.pin (a, oe) (List.mem_append_left _ List.mem_cons_self)
  obtain ⟨vs, hd⟩ := hf
  have hx : ObjOk X.prog X.w H1 s1.heap dd (.xd [(("why" : Str), v)]) := I1.hok dd _ ea
  obtain ⟨mA, hns, hr⟩ := hx
  obtain ⟨od, ho, hl⟩ := lookIn_ns hns
  have l : List.lookup ("why" : Str) [(("why" : Str), v)] = some v := by simp [List.lookup]
  obtain ⟨u, hu, ru⟩ := RelO.some_of (v := v) (o := mA "why") (by rw [← l]; exact hr "why")
  have J : PySem.W.InstAt s1.heap a oe C (some od) := ⟨ha, hz.1, by unfold PySem.W.notCls; rw [hd] <;> rfl, by rw [hz.2]; exact ho⟩
  exact HandSPX.exc_get I1.kIn J T.ga T.gg T.exC (PySem.W.findObj_own T.hdC T.noN rfl (by rw [hl, hu])) (handed_of ru) ⟨v, H1, I1.tok _, ru, q⟩
end
end L2

namespace L2
open PySem PySem.Spec PyProof.Rows
/-- an if whose test is known -/
theorem if_true_of {c : Bool} {A B : Prop} (hc : c = true) (h : A) : if c = true then A else B := by
  rw [if_pos hc]
  exact h
theorem if_false_of {c : Bool} {A B : Prop} (hc : c = false) (h : B) : if c = true then A else B := by
  rw [hc, if_neg Bool.false_ne_true]
  exact h
end L2

/-! try: .. / except x as n: .. / except y: .. (nothing else leaves the body) -/
namespace Rt
open PySem PySem.Spec PyProof.Rows L2
/-- what the two clauses wish of an exception -/
def wTwo (K : PySem.W.Frag) (c : Value) (i : Nat) (ts : Addr → Value → Option Addr → TS) (c2 : Value) (ts2 : Addr → Value → Option Addr → TS) (D : Ends) : WX := fun cls d σ H =>
  ∃ b, PySem.W.exmOne K cls c = some b ∧ (b = true → ∀ a, H a = none → ts a cls d { nx := fun σ' H' => D.nx (σ'.set i none) H', rt := D.rt, bk := fun σ' H' => D.bk (σ'.set i none) H', ct := fun σ' H' => D.ct (σ'.set i none) H' } (σ.set i (some (.ref a))) H) ∧
    (b = false → PySem.W.exmOne K cls c2 = some true ∧ ∀ a, H a = none → ts2 a cls d D σ H)
section
variable {X : Cx} {x n x2 : Str} {c c2 : Value} {i : Nat} {body suite suite2 : List Stmt} {b₀ b₂ : Stmt} {np np2 pos pos' pos2 : Pos} {tb : WX → TS} {ts ts2 : Addr → Value → Option Addr → TS}
theorem ps_try_two (hs : X.stack = X.env :: X.outer) (hf : X.env.frame = some X.env.locals) (hN : X.N.Nodup) (hi : X.N[i]? = some n) (hln : X.env.kindOf n = some .local) (hc : Names X x c) (hc2 : Names X x2 c2)
    (hb : ∀ (W : WX) (pn : List (Addr × Obj)) (xe : Value → Shared → Prop), Takes (X.tr pn xe) W → PassesOwn (model X.prog X.w) X.A X.env xe → PSs (X.tr pn xe) body (tb W))
    (hsu : ∀ (a : Addr) (oe : Obj) (cls : Value) (d : Option Addr) (pn : List (Addr × Obj)), Zc cls d oe → (∃ vs, oe.data = .fields vs) → PSs (X.suite a ((a, oe) :: pn)) (b₀ :: suite) (ts a cls d))
    (hsu2 : ∀ (a : Addr) (oe : Obj) (cls : Value) (d : Option Addr) (pn : List (Addr × Obj)), Zc cls d oe → (∃ vs, oe.data = .fields vs) → PSs (X.suite a ((a, oe) :: pn)) (b₂ :: suite2) (ts2 a cls d)) :
    PS X (.Try body [.ExceptHandler (some (.Name x np)) (some n) (b₀ :: suite) pos', .ExceptHandler (some (.Name x2 np2)) none (b₂ :: suite2) pos2] [] [] pos) (fun D σ H => tb (wTwo X.K c i ts c2 ts2 D) D σ H) := by
  refine ⟨fun pins s σ H D I h => ?_⟩
  have ok := I.ok
  have hfr : X.A.frames = some (X.env :: X.outer) := by rw [ok.frames, hs]
  have hloc : Loc X.env.scope n := .inl hln
  refine wpAny_Try_except ?_
  refine wpAny_mono ((hb (wTwo X.K c i ts c2 ts2 D) (X.pn ++ pins) (fun e s₁ => wpAny (model X.prog X.w) X.A (noteFrame e X.env) (fun _ s₂ => wpAny (model X.prog X.w) X.A (setFlight e none) (fun _ s₃ =>
    wpAny (model X.prog X.w) X.A (handleBy e X.env [.ExceptHandler (some (.Name x np)) (some n) (b₀ :: suite) pos', .ExceptHandler (some (.Name x2 np2)) none (b₂ :: suite2) pos2]) (SP X pins D) X.xe s₃) X.xe s₂) X.xe s₁) (fun u s' xx => ?_) PassesOwn.looking).run [] s σ H D (I.toTry _) h)
    (fun f s1 hsp => ?_) (fun e s1 he => he)
  · obtain ⟨a, B, sI, pins', σ', H', cls, d, rfl, J', nb, up, sky, na, os, ag, b, hb1, hyes, hno⟩ := xx
    have J : Inv X pins σ' H' sI := J'.ofTry ok
    have sky' : Sky B (X.env :: X.outer) a (Zc cls d) X.env.locals s'.heap := by rw [← hs]; exact sky
    show wpAny (model X.prog X.w) X.A (noteFrame (.ref a) X.env) _ _ _
    refine Sky.land Zc.steady hfr hf sky' fun h3 fl3 up3 => ?_
    have J3 : Inv X pins σ' H' { s' with heap := h3 } := J.landed nb fl3.1 (up.trans up3) os ag
    obtain ⟨oe3, vs3, he3, hz3, hd3⟩ := fl3.there
    have nfr : a ∉ frs (X.env :: X.outer) := fun hm => by
      obtain ⟨_, o', e', hnf⟩ := fl3.2.2.1.mem hm
      rw [he3] at e'; cases e'
      exact hnf _ hd3
    have nL : a ≠ X.env.locals := fun z => nfr (List.mem_filterMap.mpr ⟨X.env, List.mem_cons_self, by rw [hf, z]⟩)
    have nF : a ∉ X.fs := fun hm => by
      obtain ⟨e, he, q⟩ := List.mem_filterMap.mp hm
      exact nfr (List.mem_filterMap.mpr ⟨e, List.mem_cons_of_mem _ he, q⟩)
    have S3 := J3.suite he3 hd3 na nL nF
    have LT : PySem.W.Looks (model X.prog X.w) h3 (typeOf (.ref a)) cls := fun A Q E s k q => wpAny_typeOf_ref (k _ _ he3) (by rw [hz3.1]; exact q)
    have test : ∀ {y : Str} {yp : Pos} {cc : Value} {Q : Value → Shared → Prop} {E : Value → Shared → Prop}, Names X y cc → Q cc { s' with heap := h3 } → wpAny (model X.prog X.w) (X.A.mark (some (.ref a))) (eval (.Name y yp) X.env) Q E { s' with heap := h3 } := fun {y yp cc Q E} hcc q => by
      obtain ⟨hg, hdbg, hm | ⟨hm, hv, hnn⟩⟩ := hcc
      · exact ld_glob (X := X.suite a ((a, oe3) :: (X.pn ++ pins))) S3 hg hm q hdbg
      · exact ld_blt (X := X.suite a ((a, oe3) :: (X.pn ++ pins))) S3 hg hm hv q hnn hdbg
    refine wpAny_handleBy_cons (codeAny_handlers_test ?_) (by intro q; cases q)
    refine test hc ((PySem.W.exm_one (M := model X.prog X.w) (J3.kIn) LT hb1).here ?_)
    cases b with
    | true =>
      refine codeAny_handlers_suite_as ?_
      refine HandSPX.lands_againZ fl3 fun h4 fl4 up4 => ?_
      have J4 : Inv X pins σ' H' { s' with heap := h4 } := J.landed nb fl4.1 ((up.trans up3).trans up4) os ag
      obtain ⟨oe4, vs4, he4, hz4, hd4⟩ := fl4.there
      have S4 := J4.suite he4 hd4 na nL nF
      refine store_ok (X := X.suite a ((a, oe4) :: (X.pn ++ pins))) (v := .ref a) S4 hN hi hloc rfl (fun s5 S5 => ?_) (.inr hln)
      refine wpAny_mono ((hsu a oe4 cls d (X.pn ++ pins) hz4 ⟨_, hd4⟩).run [] s5 _ H' _ S5 (hyes rfl a na)) (fun f s6 hsp => ?_) (fun _ _ z => False.elim z)
      cases f with
      | next =>
        obtain ⟨σ6, H6, S6, q6⟩ := hsp
        exact gone_ok (S6.unsuite ok) hN hi hln fun s7 J7 => ⟨_, _, J7, q6⟩
      | brk =>
        obtain ⟨σ6, H6, S6, q6⟩ := hsp
        exact gone_ok (S6.unsuite ok) hN hi hln fun s7 J7 => ⟨_, _, J7, q6⟩
      | cont =>
        obtain ⟨σ6, H6, S6, q6⟩ := hsp
        exact gone_ok (S6.unsuite ok) hN hi hln fun s7 J7 => ⟨_, _, J7, q6⟩
      | ret u =>
        obtain ⟨v6, σ6, H6, S6, r6, q6⟩ := hsp
        exact gone_ok (S6.unsuite ok) hN hi hln fun s7 J7 => ⟨_, _, _, J7, r6, q6⟩
    | false =>
      obtain ⟨hb2, hyes2⟩ := hno rfl
      show wpAny _ X.A (handleBy (.ref a) X.env [.ExceptHandler (some (.Name x2 np2)) none (b₂ :: suite2) pos2]) _ _ _
      refine wpAny_handleBy_cons (codeAny_handlers_test ?_) (by intro q; cases q)
      refine test hc2 ((PySem.W.exm_one (M := model X.prog X.w) (J3.kIn) LT hb2).here ?_)
      refine codeAny_handlers_suite ?_
      refine HandSPX.lands_againZ fl3 fun h4 fl4 up4 => ?_
      have J4 : Inv X pins σ' H' { s' with heap := h4 } := J.landed nb fl4.1 ((up.trans up3).trans up4) os ag
      obtain ⟨oe4, vs4, he4, hz4, hd4⟩ := fl4.there
      refine wpAny_mono ((hsu2 a oe4 cls d (X.pn ++ pins) hz4 ⟨_, hd4⟩).run [] _ _ H' _ (J4.suite he4 hd4 na nL nF) (hyes2 a na)) (fun f s6 hsp => ?_) (fun _ _ z => False.elim z)
      cases f with
      | next =>
        obtain ⟨σ6, H6, S6, q6⟩ := hsp
        exact ⟨_, _, S6.unsuite ok, q6⟩
      | brk =>
        obtain ⟨σ6, H6, S6, q6⟩ := hsp
        exact ⟨_, _, S6.unsuite ok, q6⟩
      | cont =>
        obtain ⟨σ6, H6, S6, q6⟩ := hsp
        exact ⟨_, _, S6.unsuite ok, q6⟩
      | ret u =>
        obtain ⟨v6, σ6, H6, S6, r6, q6⟩ := hsp
        exact ⟨_, _, _, S6.unsuite ok, r6, q6⟩
  · cases f with
    | next =>
      obtain ⟨σ', H', J', q⟩ := hsp
      exact wpAny_execs_nil ⟨σ', H', J'.ofTry ok, q⟩
    | brk =>
      obtain ⟨σ', H', J', q⟩ := hsp
      exact ⟨σ', H', J'.ofTry ok, q⟩
    | cont =>
      obtain ⟨σ', H', J', q⟩ := hsp
      exact ⟨σ', H', J'.ofTry ok, q⟩
    | ret u =>
      obtain ⟨v, σ', H', J', r, q⟩ := hsp
      exact ⟨v, σ', H', J'.ofTry ok, r, q⟩
end
end Rt

/-! The text's places, its scopes, the facts of the top (printed by emit.py) -/
namespace Rt
open PySem PySem.Spec PyProof.Rows L2
/-! ### the text -/
def top (i : Nat) : Stmt := PySem.Challenge.pw_ruletablesdesk_s01_answers.main.body.getD i (.Pass ⟨0, 0, 0, 0⟩)
abbrev s_need : Stmt := top 9
abbrev s_Reader_init : Stmt := inClass (top 10) 0
abbrev s_Reader_take : Stmt := inClass (top 10) 1
abbrev s_Reader_look_at_end : Stmt := inClass (top 10) 2
abbrev s_Reader_pattern : Stmt := inClass (top 10) 3
abbrev s_Reader_rule : Stmt := inClass (top 10) 4
abbrev s_table_of : Stmt := top 11
abbrev s_rule_of : Stmt := top 12
abbrev s_patterns_in : Stmt := top 13
abbrev s_matchesD : Stmt := top 14
abbrev s_counting : Stmt := top 15
abbrev s_outcome : Stmt := top 16
abbrev s_outcomes : Stmt := top 17
abbrev s_set_patterns : Stmt := top 18
abbrev s_own_headers : Stmt := top 19
abbrev s_rule_numbers : Stmt := top 20
abbrev s_table_numbers : Stmt := top 21
abbrev s_set_numbers : Stmt := top 22
abbrev s_without : Stmt := top 24
abbrev s_spare_rules : Stmt := top 25
abbrev s_exchanged : Stmt := top 26
abbrev s_is_one_bit : Stmt := top 27
abbrev s_made_one : Stmt := top 28
abbrev s_first_pair : Stmt := top 29
abbrev s_step : Stmt := top 30
abbrev s_made_small : Stmt := top 31
abbrev s_Refused_init : Stmt := inClass (top 55) 0
abbrev s_refuse_if : Stmt := top 56
abbrev s_counted : Stmt := top 57
abbrev s_sort_of : Stmt := top 58
abbrev s_bit_otherwise : Stmt := top 59
abbrev s_Desk_init : Stmt := inClass (top 60) 0
abbrev s_Desk_headers : Stmt := inClass (top 60) 1
abbrev s_Desk_wide : Stmt := inClass (top 60) 2
abbrev s_Desk_put_table : Stmt := inClass (top 60) 3
abbrev s_Desk_put_rule : Stmt := inClass (top 60) 4
abbrev s_Desk_take_rule : Stmt := inClass (top 60) 5
abbrev s_Desk_does : Stmt := inClass (top 60) 6
abbrev s_Desk_own : Stmt := inClass (top 60) 7
abbrev s_Desk_sent_by : Stmt := inClass (top 60) 8
abbrev s_Desk_to : Stmt := inClass (top 60) 9
abbrev s_Desk_out : Stmt := inClass (top 60) 10
abbrev s_Desk_sent_as : Stmt := inClass (top 60) 11
abbrev s_Desk_many_counted : Stmt := inClass (top 60) 12
abbrev s_Desk_idle : Stmt := inClass (top 60) 13
abbrev s_Desk_turn : Stmt := inClass (top 60) 14
abbrev s_Desk_small : Stmt := inClass (top 60) 15
abbrev s_Desk_apart : Stmt := inClass (top 60) 16
abbrev s_Desk_why_told : Stmt := inClass (top 60) 17
abbrev s_Desk_pairs : Stmt := inClass (top 60) 18
abbrev s_Desk_other : Stmt := inClass (top 60) 19
abbrev s_Desk_classes : Stmt := inClass (top 60) 20
abbrev s_table_told : Stmt := top 61
abbrev s_looked_told : Stmt := top 62
abbrev s_call_told : Stmt := top 63
abbrev s_answer_of : Stmt := top 64
abbrev s_CallReader_init : Stmt := inClass (top 65) 0
abbrev s_CallReader_is_done : Stmt := inClass (top 65) 1
abbrev s_CallReader_next_some : Stmt := inClass (top 65) 2
abbrev s_answers : Stmt := top 66
theorem sc_need : FnScope ["truth"] ["truth"] (defScope s_need) := ⟨rfl, rfl, rfl, by decide +kernel, rfl, by decide +kernel, by decide +kernel⟩
theorem sc_Reader_init : FnScope ["self", "numbers", "bits"] ["self", "numbers", "bits"] (defScope s_Reader_init) := ⟨rfl, rfl, rfl, by decide +kernel, rfl, by decide +kernel, by decide +kernel⟩
theorem sc_Reader_take : FnScope ["self", "most"] ["self", "most"] (defScope s_Reader_take) := ⟨rfl, rfl, rfl, by decide +kernel, rfl, by decide +kernel, by decide +kernel⟩
theorem sc_Reader_look_at_end : FnScope ["self"] ["self"] (defScope s_Reader_look_at_end) := ⟨rfl, rfl, rfl, by decide +kernel, rfl, by decide +kernel, by decide +kernel⟩
theorem sc_Reader_pattern : FnScope ["self", "told", "ones"] ["self"] (defScope s_Reader_pattern) := ⟨rfl, rfl, rfl, by decide +kernel, rfl, by decide +kernel, by decide +kernel⟩
theorem sc_Reader_rule : FnScope ["self", "pattern", "rewrite"] ["self"] (defScope s_Reader_rule) := ⟨rfl, rfl, rfl, by decide +kernel, rfl, by decide +kernel, by decide +kernel⟩
theorem sc_table_of : FnScope ["numbers", "bits", "reader", "found", "turn"] ["numbers", "bits"] (defScope s_table_of) := ⟨rfl, rfl, rfl, by decide +kernel, rfl, by decide +kernel, by decide +kernel⟩
theorem sc_rule_of : FnScope ["numbers", "bits", "reader", "found"] ["numbers", "bits"] (defScope s_rule_of) := ⟨rfl, rfl, rfl, by decide +kernel, rfl, by decide +kernel, by decide +kernel⟩
theorem sc_patterns_in : FnScope ["numbers", "bits", "reader", "found", "turn"] ["numbers", "bits"] (defScope s_patterns_in) := ⟨rfl, rfl, rfl, by decide +kernel, rfl, by decide +kernel, by decide +kernel⟩
theorem sc_matchesD : FnScope ["header", "pattern"] ["header", "pattern"] (defScope s_matchesD) := ⟨rfl, rfl, rfl, by decide +kernel, rfl, by decide +kernel, by decide +kernel⟩
theorem sc_counting : FnScope ["table", "header", "number", "rule"] ["table", "header"] (defScope s_counting) := ⟨rfl, rfl, rfl, by decide +kernel, rfl, by decide +kernel, by decide +kernel⟩
theorem sc_outcome : FnScope ["table", "header", "number", "action"] ["table", "header"] (defScope s_outcome) := ⟨rfl, rfl, rfl, by decide +kernel, rfl, by decide +kernel, by decide +kernel⟩
theorem sc_outcomes : FnScope ["table", "bits", "header"] ["table", "bits"] (defScope s_outcomes) := ⟨rfl, rfl, rfl, by decide +kernel, rfl, by decide +kernel, by decide +kernel⟩
theorem sc_set_patterns : FnScope ["headers", "bits", "worth", "lower", "upper", "found", "header", "told", "ones"] ["headers", "bits"] (defScope s_set_patterns) := ⟨rfl, rfl, rfl, by decide +kernel, rfl, by decide +kernel, by decide +kernel⟩
theorem sc_own_headers : FnScope ["table", "number", "bits", "header"] ["table", "number", "bits"] (defScope s_own_headers) := ⟨rfl, rfl, rfl, by decide +kernel, rfl, by decide +kernel, by decide +kernel⟩
theorem sc_rule_numbers : FnScope ["rule"] ["rule"] (defScope s_rule_numbers) := ⟨rfl, rfl, rfl, by decide +kernel, rfl, by decide +kernel, by decide +kernel⟩
theorem sc_table_numbers : FnScope ["table", "found", "rule"] ["table"] (defScope s_table_numbers) := ⟨rfl, rfl, rfl, by decide +kernel, rfl, by decide +kernel, by decide +kernel⟩
theorem sc_set_numbers : FnScope ["headers", "bits", "patterns", "found", "pattern"] ["headers", "bits"] (defScope s_set_numbers) := ⟨rfl, rfl, rfl, by decide +kernel, rfl, by decide +kernel, by decide +kernel⟩
theorem sc_without : FnScope ["table", "number"] ["table", "number"] (defScope s_without) := ⟨rfl, rfl, rfl, by decide +kernel, rfl, by decide +kernel, by decide +kernel⟩
theorem sc_spare_rules : FnScope ["table", "bits", "whole", "number"] ["table", "bits"] (defScope s_spare_rules) := ⟨rfl, rfl, rfl, by decide +kernel, rfl, by decide +kernel, by decide +kernel⟩
theorem sc_exchanged : FnScope ["table", "number"] ["table", "number"] (defScope s_exchanged) := ⟨rfl, rfl, rfl, by decide +kernel, rfl, by decide +kernel, by decide +kernel⟩
theorem sc_is_one_bit : FnScope ["number"] ["number"] (defScope s_is_one_bit) := ⟨rfl, rfl, rfl, by decide +kernel, rfl, by decide +kernel, by decide +kernel⟩
theorem sc_made_one : FnScope ["table", "one", "other", "first", "second", "bit", "pattern"] ["table", "one", "other"] (defScope s_made_one) := ⟨rfl, rfl, rfl, by decide +kernel, rfl, by decide +kernel, by decide +kernel⟩
theorem sc_first_pair : FnScope ["table", "bits", "whole", "one", "other", "fresh"] ["table", "bits"] (defScope s_first_pair) := ⟨rfl, rfl, rfl, by decide +kernel, rfl, by decide +kernel, by decide +kernel⟩
theorem sc_step : FnScope ["table", "bits", "spare", "pair"] ["table", "bits"] (defScope s_step) := ⟨rfl, rfl, rfl, by decide +kernel, rfl, by decide +kernel, by decide +kernel⟩
theorem sc_made_small : FnScope ["table", "bits", "count", "found", "one"] ["table", "bits"] (defScope s_made_small) := ⟨rfl, rfl, rfl, by decide +kernel, rfl, by decide +kernel, by decide +kernel⟩
theorem sc_Refused_init : FnScope ["self", "why"] ["self", "why"] (defScope s_Refused_init) := ⟨rfl, rfl, rfl, by decide +kernel, rfl, by decide +kernel, by decide +kernel⟩
theorem sc_refuse_if : FnScope ["truth", "why"] ["truth", "why"] (defScope s_refuse_if) := ⟨rfl, rfl, rfl, by decide +kernel, rfl, by decide +kernel, by decide +kernel⟩
theorem sc_counted : FnScope ["row"] ["row"] (defScope s_counted) := ⟨rfl, rfl, rfl, by decide +kernel, rfl, by decide +kernel, by decide +kernel⟩
theorem sc_sort_of : FnScope ["told"] ["told"] (defScope s_sort_of) := ⟨rfl, rfl, rfl, by decide +kernel, rfl, by decide +kernel, by decide +kernel⟩
theorem sc_bit_otherwise : FnScope ["header", "pattern", "left", "found"] ["header", "pattern"] (defScope s_bit_otherwise) := ⟨rfl, rfl, rfl, by decide +kernel, rfl, by decide +kernel, by decide +kernel⟩
theorem sc_Desk_init : FnScope ["self"] ["self"] (defScope s_Desk_init) := ⟨rfl, rfl, rfl, by decide +kernel, rfl, by decide +kernel, by decide +kernel⟩
theorem sc_Desk_headers : FnScope ["self"] ["self"] (defScope s_Desk_headers) := ⟨rfl, rfl, rfl, by decide +kernel, rfl, by decide +kernel, by decide +kernel⟩
theorem sc_Desk_wide : FnScope ["self", "number"] ["self", "number"] (defScope s_Desk_wide) := ⟨rfl, rfl, rfl, by decide +kernel, rfl, by decide +kernel, by decide +kernel⟩
theorem sc_Desk_put_table : FnScope ["self", "which", "numbers"] ["self", "which", "numbers"] (defScope s_Desk_put_table) := ⟨rfl, rfl, rfl, by decide +kernel, rfl, by decide +kernel, by decide +kernel⟩
theorem sc_Desk_put_rule : FnScope ["self", "which", "place", "numbers", "table", "rule"] ["self", "which", "place", "numbers"] (defScope s_Desk_put_rule) := ⟨rfl, rfl, rfl, by decide +kernel, rfl, by decide +kernel, by decide +kernel⟩
theorem sc_Desk_take_rule : FnScope ["self", "which", "number", "table"] ["self", "which", "number"] (defScope s_Desk_take_rule) := ⟨rfl, rfl, rfl, by decide +kernel, rfl, by decide +kernel, by decide +kernel⟩
theorem sc_Desk_does : FnScope ["self", "which", "header", "table", "told"] ["self", "which", "header"] (defScope s_Desk_does) := ⟨rfl, rfl, rfl, by decide +kernel, rfl, by decide +kernel, by decide +kernel⟩
theorem sc_Desk_own : FnScope ["self", "which", "number"] ["self", "which", "number"] (defScope s_Desk_own) := ⟨rfl, rfl, rfl, by decide +kernel, rfl, by decide +kernel, by decide +kernel⟩
theorem sc_Desk_sent_by : FnScope ["self", "which", "port", "found", "header", "told"] ["self", "which", "port"] (defScope s_Desk_sent_by) := ⟨rfl, rfl, rfl, by decide +kernel, rfl, by decide +kernel, by decide +kernel⟩
theorem sc_Desk_to : FnScope ["self", "which", "port", "header", "sent"] ["self", "which", "port"] (defScope s_Desk_to) := ⟨rfl, rfl, rfl, by decide +kernel, rfl, by decide +kernel, by decide +kernel⟩
theorem sc_Desk_out : FnScope ["self", "which", "port", "header", "sent"] ["self", "which", "port"] (defScope s_Desk_out) := ⟨rfl, rfl, rfl, by decide +kernel, rfl, by decide +kernel, by decide +kernel⟩
theorem sc_Desk_sent_as : FnScope ["self", "which", "port", "numbers", "some", "patterns", "found", "header", "sent", "pattern"] ["self", "which", "port", "numbers"] (defScope s_Desk_sent_as) := ⟨rfl, rfl, rfl, by decide +kernel, rfl, by decide +kernel, by decide +kernel⟩
theorem sc_Desk_many_counted : FnScope ["self", "which", "table", "number"] ["self", "which"] (defScope s_Desk_many_counted) := ⟨rfl, rfl, rfl, by decide +kernel, rfl, by decide +kernel, by decide +kernel⟩
theorem sc_Desk_idle : FnScope ["self", "which", "many", "number"] ["self", "which"] (defScope s_Desk_idle) := ⟨rfl, rfl, rfl, by decide +kernel, rfl, by decide +kernel, by decide +kernel⟩
theorem sc_Desk_turn : FnScope ["self", "which", "number", "table"] ["self", "which", "number"] (defScope s_Desk_turn) := ⟨rfl, rfl, rfl, by decide +kernel, rfl, by decide +kernel, by decide +kernel⟩
theorem sc_Desk_small : FnScope ["self", "which", "told"] ["self", "which"] (defScope s_Desk_small) := ⟨rfl, rfl, rfl, by decide +kernel, rfl, by decide +kernel, by decide +kernel⟩
theorem sc_Desk_apart : FnScope ["self", "which", "found", "number", "rule", "pattern", "row"] ["self", "which"] (defScope s_Desk_apart) := ⟨rfl, rfl, rfl, by decide +kernel, rfl, by decide +kernel, by decide +kernel⟩
theorem sc_Desk_why_told : FnScope ["self", "which", "header", "table", "rule"] ["self", "which", "header"] (defScope s_Desk_why_told) := ⟨rfl, rfl, rfl, by decide +kernel, rfl, by decide +kernel, by decide +kernel⟩
theorem sc_Desk_pairs : FnScope ["self", "first", "second", "header"] ["self"] (defScope s_Desk_pairs) := ⟨rfl, rfl, rfl, by decide +kernel, rfl, by decide +kernel, by decide +kernel⟩
theorem sc_Desk_other : FnScope ["self", "found", "header", "one", "two"] ["self"] (defScope s_Desk_other) := ⟨rfl, rfl, rfl, by decide +kernel, rfl, by decide +kernel, by decide +kernel⟩
theorem sc_Desk_classes : FnScope ["self", "groups", "header", "one", "two", "found", "key"] ["self"] (defScope s_Desk_classes) := ⟨rfl, rfl, rfl, by decide +kernel, rfl, by decide +kernel, by decide +kernel⟩
theorem sc_table_told : FnScope ["desk", "call", "numbers", "row", "which"] ["desk", "call", "numbers", "row"] (defScope s_table_told) := ⟨rfl, rfl, rfl, by decide +kernel, rfl, by decide +kernel, by decide +kernel⟩
theorem sc_looked_told : FnScope ["desk", "call", "which", "numbers"] ["desk", "call", "which", "numbers"] (defScope s_looked_told) := ⟨rfl, rfl, rfl, by decide +kernel, rfl, by decide +kernel, by decide +kernel⟩
theorem sc_call_told : FnScope ["desk", "call", "numbers", "row"] ["desk", "call", "numbers", "row"] (defScope s_call_told) := ⟨rfl, rfl, rfl, by decide +kernel, rfl, by decide +kernel, by decide +kernel⟩
theorem sc_answer_of : FnScope ["desk", "call", "numbers", "row", "e"] ["desk", "call", "numbers", "row"] (defScope s_answer_of) := ⟨rfl, rfl, rfl, by decide +kernel, rfl, by decide +kernel, by decide +kernel⟩
theorem sc_CallReader_init : FnScope ["self", "calls"] ["self", "calls"] (defScope s_CallReader_init) := ⟨rfl, rfl, rfl, by decide +kernel, rfl, by decide +kernel, by decide +kernel⟩
theorem sc_CallReader_is_done : FnScope ["self"] ["self"] (defScope s_CallReader_is_done) := ⟨rfl, rfl, rfl, by decide +kernel, rfl, by decide +kernel, by decide +kernel⟩
theorem sc_CallReader_next_some : FnScope ["self", "many"] ["self", "many"] (defScope s_CallReader_next_some) := ⟨rfl, rfl, rfl, by decide +kernel, rfl, by decide +kernel, by decide +kernel⟩
theorem sc_answers : FnScope ["calls", "desk", "reader", "found", "call", "numbers", "row", "answer"] ["calls"] (defScope s_answers) := ⟨rfl, rfl, rfl, by decide +kernel, rfl, by decide +kernel, by decide +kernel⟩
/-! ### the facts that the top leaves -/
structure Def (K : PySem.W.Frag) (mg : Str → Option Value) (x : Str) (st : Stmt) (ps : List Str) where
  f : Addr
  fd : FuncData
  fn : Fun K x x st f fd
  bd : Binds K fd ps []
  gl : mg x = some (.ref f)
structure Mth (K : PySem.W.Frag) (C : Addr) (m qual : Str) (st : Stmt) (ps : List Str) where
  f : Addr
  fd : FuncData
  fn : Fun K m qual st f fd
  bd : Binds K fd ps []
  me : Meth K C m f
structure Ini (K : PySem.W.Frag) (C : Addr) (qual : Str) (st : Stmt) (ps : List Str) where
  f : Addr
  fd : FuncData
  fn : Fun K "__init__" qual st f fd
  bd : Binds K fd ps []
  mkk : Mk K C f
theorem Def.kp {K : PySem.W.Frag} {mg : Str → Option Value} {x : Str} {st : Stmt} {ps : List Str} (D : Def K mg x st ps) : PySem.W.keepIn K (.ref D.f) = true := D.fn.kp
/-- a module's whole number -/
def GI (mg : Str → Option Value) (x : Str) (i : Int) : Prop := ∃ t, mg x = some (.int i t)
theorem pgi {X : Cx} {x : Str} {i : Int} {pos : Pos} (hg : Gl X x) (h : GI X.mg x i) (hd : (x == ("__debug__" : Str)) = false := by decide) : PE X (.Name x pos) (tC (.int i)) := by
  obtain ⟨t, e⟩ := h
  exact pe_glob hg e ⟨t, rfl⟩ hd
def numbersV : List V := [.int 1, .int 1, .int 2, .int 2, .int 1, .int 2, .int 2, .int 1, .int 2, .int 2, .int 2, .int 1, .int 1, .int 2, .int 1, .int 1, .int 2, .int 1, .int 0, .int 0]
def rowsV : List V := [.int 0, .int 1, .int 1, .int 0, .int 0, .int 0, .int 0, .int 0, .int 0, .int 0, .int 1, .int 0, .int 0, .int 0, .int 0, .int 0, .int 0, .int 0, .int 0, .int 0]
structure Txt (K : PySem.W.Frag) (mg : Str → Option Value) where
  cReader : Addr
  cDesk : Addr
  cCallReader : Addr
  cNR : Addr
  cRef : Addr
  fRef : Addr
  aNUMBERS : Addr
  aROWS : Addr
  need : Def K mg "need" s_need ["truth"]
  Reader_init : Ini K cReader "Reader.__init__" s_Reader_init ["self", "numbers", "bits"]
  Reader_take : Mth K cReader "take" "Reader.take" s_Reader_take ["self", "most"]
  Reader_look_at_end : Mth K cReader "look_at_end" "Reader.look_at_end" s_Reader_look_at_end ["self"]
  Reader_pattern : Mth K cReader "pattern" "Reader.pattern" s_Reader_pattern ["self"]
  Reader_rule : Mth K cReader "rule" "Reader.rule" s_Reader_rule ["self"]
  table_of : Def K mg "table_of" s_table_of ["numbers", "bits"]
  rule_of : Def K mg "rule_of" s_rule_of ["numbers", "bits"]
  patterns_in : Def K mg "patterns_in" s_patterns_in ["numbers", "bits"]
  matchesD : Def K mg "matches" s_matchesD ["header", "pattern"]
  counting : Def K mg "counting" s_counting ["table", "header"]
  outcome : Def K mg "outcome" s_outcome ["table", "header"]
  outcomes : Def K mg "outcomes" s_outcomes ["table", "bits"]
  set_patterns : Def K mg "set_patterns" s_set_patterns ["headers", "bits"]
  own_headers : Def K mg "own_headers" s_own_headers ["table", "number", "bits"]
  rule_numbers : Def K mg "rule_numbers" s_rule_numbers ["rule"]
  table_numbers : Def K mg "table_numbers" s_table_numbers ["table"]
  set_numbers : Def K mg "set_numbers" s_set_numbers ["headers", "bits"]
  without : Def K mg "without" s_without ["table", "number"]
  spare_rules : Def K mg "spare_rules" s_spare_rules ["table", "bits"]
  exchanged : Def K mg "exchanged" s_exchanged ["table", "number"]
  is_one_bit : Def K mg "is_one_bit" s_is_one_bit ["number"]
  made_one : Def K mg "made_one" s_made_one ["table", "one", "other"]
  first_pair : Def K mg "first_pair" s_first_pair ["table", "bits"]
  step : Def K mg "step" s_step ["table", "bits"]
  made_small : Def K mg "made_small" s_made_small ["table", "bits"]
  refuse_if : Def K mg "refuse_if" s_refuse_if ["truth", "why"]
  counted : Def K mg "counted" s_counted ["row"]
  sort_of : Def K mg "sort_of" s_sort_of ["told"]
  bit_otherwise : Def K mg "bit_otherwise" s_bit_otherwise ["header", "pattern"]
  Desk_init : Ini K cDesk "Desk.__init__" s_Desk_init ["self"]
  Desk_headers : Mth K cDesk "headers" "Desk.headers" s_Desk_headers ["self"]
  Desk_wide : Mth K cDesk "wide" "Desk.wide" s_Desk_wide ["self", "number"]
  Desk_put_table : Mth K cDesk "put_table" "Desk.put_table" s_Desk_put_table ["self", "which", "numbers"]
  Desk_put_rule : Mth K cDesk "put_rule" "Desk.put_rule" s_Desk_put_rule ["self", "which", "place", "numbers"]
  Desk_take_rule : Mth K cDesk "take_rule" "Desk.take_rule" s_Desk_take_rule ["self", "which", "number"]
  Desk_does : Mth K cDesk "does" "Desk.does" s_Desk_does ["self", "which", "header"]
  Desk_own : Mth K cDesk "own" "Desk.own" s_Desk_own ["self", "which", "number"]
  Desk_sent_by : Mth K cDesk "sent_by" "Desk.sent_by" s_Desk_sent_by ["self", "which", "port"]
  Desk_to : Mth K cDesk "to" "Desk.to" s_Desk_to ["self", "which", "port"]
  Desk_out : Mth K cDesk "out" "Desk.out" s_Desk_out ["self", "which", "port"]
  Desk_sent_as : Mth K cDesk "sent_as" "Desk.sent_as" s_Desk_sent_as ["self", "which", "port", "numbers"]
  Desk_many_counted : Mth K cDesk "many_counted" "Desk.many_counted" s_Desk_many_counted ["self", "which"]
  Desk_idle : Mth K cDesk "idle" "Desk.idle" s_Desk_idle ["self", "which"]
  Desk_turn : Mth K cDesk "turn" "Desk.turn" s_Desk_turn ["self", "which", "number"]
  Desk_small : Mth K cDesk "small" "Desk.small" s_Desk_small ["self", "which"]
  Desk_apart : Mth K cDesk "apart" "Desk.apart" s_Desk_apart ["self", "which"]
  Desk_why_told : Mth K cDesk "why_told" "Desk.why_told" s_Desk_why_told ["self", "which", "header"]
  Desk_pairs : Mth K cDesk "pairs" "Desk.pairs" s_Desk_pairs ["self"]
  Desk_other : Mth K cDesk "other" "Desk.other" s_Desk_other ["self"]
  Desk_classes : Mth K cDesk "classes" "Desk.classes" s_Desk_classes ["self"]
  table_told : Def K mg "table_told" s_table_told ["desk", "call", "numbers", "row"]
  looked_told : Def K mg "looked_told" s_looked_told ["desk", "call", "which", "numbers"]
  call_told : Def K mg "call_told" s_call_told ["desk", "call", "numbers", "row"]
  answer_of : Def K mg "answer_of" s_answer_of ["desk", "call", "numbers", "row"]
  CallReader_init : Ini K cCallReader "CallReader.__init__" s_CallReader_init ["self", "calls"]
  CallReader_is_done : Mth K cCallReader "is_done" "CallReader.is_done" s_CallReader_is_done ["self"]
  CallReader_next_some : Mth K cCallReader "next_some" "CallReader.next_some" s_CallReader_next_some ["self", "many"]
  answers : Def K mg "answers" s_answers ["calls"]
  kReader : Cls K cReader
  gReader : mg "Reader" = some (.ref cReader)
  nReader_numbers : NoAttr K cReader "numbers"
  nReader_at : NoAttr K cReader "at"
  nReader_bits : NoAttr K cReader "bits"
  kDesk : Cls K cDesk
  gDesk : mg "Desk" = some (.ref cDesk)
  nDesk_bits : NoAttr K cDesk "bits"
  nDesk_tables : NoAttr K cDesk "tables"
  kCallReader : Cls K cCallReader
  gCallReader : mg "CallReader" = some (.ref cCallReader)
  nCallReader_calls : NoAttr K cCallReader "calls"
  nCallReader_at : NoAttr K cCallReader "at"
  low : PySem.LowX.LowTxt K mg cRef fRef
  rNR : PySem.W.exmOne K (.ref cNR) (.ref cRef) = some false
  gF : mg "NotRight" = some (.ref cNR)
  xF : PySem.W.excIn K cNR [.type "ValueError", .type "Exception", .type "BaseException", .type "object"] "ValueError.__new__" = true
  kF : PySem.W.keepIn K (.ref cNR) = true
  bF : PySem.W.subIn K (.ref cNR) (.type "BaseException") = some true
  tF : PySem.W.typeIn K (.ref cNR) = some (.type "type")
  eF : PySem.W.exmOne K (.ref cNR) (.ref cNR) = some true
  gNUMBERS : mg "NUMBERS" = some (.ref aNUMBERS)
  gROWS : mg "ROWS" = some (.ref aROWS)
  tNUMBERS : ∀ H : Hp, SqT K H aNUMBERS numbersV
  tROWS : ∀ H : Hp, SqT K H aROWS rowsV
  cMOST_RULES : GI mg "MOST_RULES" 8
  cMOST_PORT : GI mg "MOST_PORT" 5
  cDROP : GI mg "DROP" 0
  cSEND : GI mg "SEND" 1
  cHOLE : GI mg "HOLE" 0
  cDROPPED : GI mg "DROPPED" 1
  cSENT : GI mg "SENT" 2
  cWIDE : GI mg "WIDE" 0
  cTABLE : GI mg "TABLE" 1
  cPUT : GI mg "PUT" 2
  cTAKE : GI mg "TAKE" 3
  cSHOWN : GI mg "SHOWN" 4
  cDOES : GI mg "DOES" 5
  cOWN : GI mg "OWN" 6
  cHOLES : GI mg "HOLES" 7
  cTO : GI mg "TO" 8
  cOUT : GI mg "OUT" 9
  cFROM : GI mg "FROM" 10
  cIDLE : GI mg "IDLE" 11
  cSPARE : GI mg "SPARE" 12
  cTURN : GI mg "TURN" 13
  cSMALL : GI mg "SMALL" 14
  cAPART : GI mg "APART" 15
  cWHY : GI mg "WHY" 16
  cCOUNTS : GI mg "COUNTS" 17
  cOTHER : GI mg "OTHER" 18
  cMOST_BITS : GI mg "MOST_BITS" 7
  zlen : mg "len" = none
  zlist : mg "list" = none
  zint : mg "int" = none
  zsorted : mg "sorted" = none
  zset : mg "set" = none
  zrange : mg "range" = none
  zenumerate : mg "enumerate" = none
end Rt

/-! Plain laws, part 1: sets of headers as rising lists; the one form of a set. -/
namespace Rt
open VapktBase (Pattern Rule Action Table Set_ Rewrite)

/-! ### sets and lists -/
theorem testBit_two_pow' (h k : Nat) : (2 ^ h).testBit k = decide (h = k) := Nat.testBit_two_pow
theorem foldl_or_testBit (g : Nat → Option Nat) (k : Nat) : ∀ (l : List Nat) (s : Nat),
    (l.foldl (fun s h => match g h with | some j => Nat.lor s (2 ^ j) | none => s) s).testBit k = (s.testBit k || l.any fun h => decide (g h = some k))
  | [], s => by simp
  | h :: r, s => by
    rw [List.foldl_cons, foldl_or_testBit g k r]
    cases e : g h with
    | none => simp [e]
    | some j =>
      show ((s ||| 2 ^ j).testBit k || _) = _
      rw [Nat.testBit_or, Nat.testBit_two_pow]
      simp only [List.any_cons, e, Option.some.injEq, Bool.or_assoc]
theorem setOf_eq (w : Nat) (f : Nat → Bool) : VapktBase.setOf w f = (List.range (2 ^ w)).foldl (fun s h => match (if f h then some h else none) with | some j => Nat.lor s (2 ^ j) | none => s) 0 := by
  unfold VapktBase.setOf VapktBase.headers
  congr 1
  funext s h
  cases f h <;> rfl
theorem setOf_testBit (w : Nat) (f : Nat → Bool) (k : Nat) : (VapktBase.setOf w f).testBit k = (decide (k < 2 ^ w) && f k) := by
  rw [setOf_eq, foldl_or_testBit, Nat.zero_testBit, Bool.false_or]
  rw [Bool.eq_iff_iff]
  simp only [List.any_eq_true, List.mem_range, decide_eq_true_eq, Bool.and_eq_true]
  constructor
  · rintro ⟨x, hx, e⟩
    by_cases hf : f x = true
    · rw [if_pos hf] at e
      cases e
      exact ⟨hx, hf⟩
    · rw [if_neg hf] at e
      cases e
  · rintro ⟨h1, h2⟩
    exact ⟨k, h1, by rw [if_pos h2]⟩
theorem lt_of_testBit {s n : Nat} (h : ∀ k, n ≤ k → s.testBit k = false) : s < 2 ^ n := Nat.lt_pow_two_of_testBit s h
theorem setOf_lt (w : Nat) (f : Nat → Bool) : VapktBase.setOf w f < 2 ^ 2 ^ w := by
  refine lt_of_testBit fun k hk => ?_
  rw [setOf_testBit, decide_eq_false (by omega), Bool.false_and]
theorem members_setOf (w : Nat) (f : Nat → Bool) : VapktBase.members w (VapktBase.setOf w f) = (List.range (2 ^ w)).filter f := by
  unfold VapktBase.members VapktBase.headers
  refine List.filter_congr fun x hx => ?_
  show (VapktBase.setOf w f).testBit x = f x
  rw [setOf_testBit, decide_eq_true (List.mem_range.mp hx), Bool.true_and]
theorem members_inj {w s s' : Nat} (hs : s < 2 ^ 2 ^ w) (hs' : s' < 2 ^ 2 ^ w) (h : VapktBase.members w s = VapktBase.members w s') : s = s' := by
  refine Nat.eq_of_testBit_eq fun k => ?_
  by_cases hk : k < 2 ^ w
  · have e : ∀ t, (k ∈ VapktBase.members w t) ↔ t.testBit k = true := fun t => by
      unfold VapktBase.members VapktBase.headers VapktBase.has
      simp [List.mem_filter, hk]
    have := e s
    rw [h, e s'] at this
    exact Bool.eq_iff_iff.mpr this.symm
  · have hk' : 2 ^ w ≤ k := by omega
    have g : ∀ t, t < 2 ^ 2 ^ w → t.testBit k = false := fun t ht =>
      Nat.testBit_lt_two_pow (Nat.lt_of_lt_of_le ht (Nat.pow_le_pow_right (by decide) hk'))
    rw [g s hs, g s' hs']

/-! ### set_patterns -/
def pats : Nat → List Nat → List Pattern
  | 0, hs => if hs = [] then [] else [⟨0, 0⟩]
  | w + 1, hs => if hs = [] then [] else
    if hs.filter (fun h => decide (h < 2 ^ w)) = (hs.filter fun h => decide (2 ^ w ≤ h)).map (· - 2 ^ w) then pats w (hs.filter fun h => decide (h < 2 ^ w))
    else (pats w (hs.filter fun h => decide (h < 2 ^ w))).map (fun p => ⟨p.told ||| 2 ^ w, p.bits⟩) ++ (pats w ((hs.filter fun h => decide (2 ^ w ≤ h)).map (· - 2 ^ w))).map fun p => ⟨p.told ||| 2 ^ w, p.bits ||| 2 ^ w⟩
theorem pats_nil (w : Nat) : pats w [] = [] := by cases w <;> simp [pats]
theorem pats_lt : ∀ (w : Nat) (hs : List Nat) (p : Pattern), p ∈ pats w hs → p.told < 2 ^ w ∧ p.bits < 2 ^ w
  | 0, hs, p, h => by
    unfold pats at h
    split at h
    · cases h
    · have := List.mem_singleton.mp h
      subst this
      exact ⟨by decide, by decide⟩
  | w + 1, hs, p, h => by
    have up : ∀ q ∈ pats w (hs.filter fun h => decide (h < 2 ^ w)), q.told < 2 ^ w ∧ q.bits < 2 ^ w := fun q hq => pats_lt w _ q hq
    have up2 : ∀ q ∈ pats w ((hs.filter fun h => decide (2 ^ w ≤ h)).map (· - 2 ^ w)), q.told < 2 ^ w ∧ q.bits < 2 ^ w := fun q hq => pats_lt w _ q hq
    have e : 2 ^ (w + 1) = 2 ^ w + 2 ^ w := by rw [Nat.pow_succ]; omega
    have l1 : 2 ^ w < 2 ^ (w + 1) := by have := Nat.two_pow_pos w; omega
    have l2 : ∀ x, x < 2 ^ w → x < 2 ^ (w + 1) := fun x hx => by omega
    unfold pats at h
    split at h
    · cases h
    · split at h
      · obtain ⟨a, b⟩ := up p h
        exact ⟨l2 _ a, l2 _ b⟩
      · rcases List.mem_append.mp h with h | h <;> obtain ⟨q, hq, rfl⟩ := List.mem_map.mp h
        · obtain ⟨a, b⟩ := up q hq
          exact ⟨Nat.or_lt_two_pow (l2 _ a) l1, l2 _ b⟩
        · obtain ⟨a, b⟩ := up2 q hq
          exact ⟨Nat.or_lt_two_pow (l2 _ a) l1, Nat.or_lt_two_pow (l2 _ b) l1⟩
theorem len_split (f : Nat → Bool) : ∀ l : List Nat, (l.filter f).length + (l.filter fun x => !f x).length = l.length
  | [] => rfl
  | x :: r => by
    have ih := len_split f r
    cases h : f x <;> simp [h] <;> omega
theorem len_split' (n : Nat) (l : List Nat) : (l.filter fun h => decide (h < n)).length + (l.filter fun h => decide (n ≤ h)).length = l.length := by
  rw [← len_split (fun h => decide (h < n)) l]
  congr 2
  refine List.filter_congr fun x _ => ?_
  by_cases h : x < n
  · simp [h]
  · simp [h]; omega
theorem pats_len : ∀ (w : Nat) (hs : List Nat), (pats w hs).length ≤ hs.length
  | 0, hs => by
    unfold pats
    split
    · simp
    · cases hs with
      | nil => contradiction
      | cons x r => simp
  | w + 1, hs => by
    have := len_split' (2 ^ w) hs
    have a := pats_len w (hs.filter fun h => decide (h < 2 ^ w))
    have b := pats_len w ((hs.filter fun h => decide (2 ^ w ≤ h)).map (· - 2 ^ w))
    rw [List.length_map] at b
    unfold pats
    split
    · simp
    · split
      · omega
      · rw [List.length_append, List.length_map, List.length_map]
        omega
theorem or_two_pow {x w : Nat} (h : x < 2 ^ w) : x ||| 2 ^ w = x + 2 ^ w := by
  have e := Nat.two_pow_add_eq_or_of_lt h 1
  rw [Nat.mul_one] at e
  rw [Nat.or_comm, ← e, Nat.add_comm]

/-! ### the one form -/
theorem members_split_low (w s : Nat) : (VapktBase.members (w + 1) s).filter (fun h => decide (h < 2 ^ w)) = VapktBase.members w (s % 2 ^ 2 ^ w) := by
  unfold VapktBase.members VapktBase.headers VapktBase.has
  rw [List.filter_filter]
  have e : 2 ^ (w + 1) = 2 ^ w + 2 ^ w := by rw [Nat.pow_succ]; omega
  rw [e, List.range_add, List.filter_append]
  have z : (List.filter (fun a => decide (a < 2 ^ w) && s.testBit a) (List.map (fun x => 2 ^ w + x) (List.range (2 ^ w)))) = [] := by
    refine List.filter_eq_nil_iff.mpr fun a ha => ?_
    obtain ⟨b, _, rfl⟩ := List.mem_map.mp ha
    rw [decide_eq_false (by omega), Bool.false_and]
    exact Bool.false_ne_true
  rw [z, List.append_nil]
  refine List.filter_congr fun x hx => ?_
  have hx := List.mem_range.mp hx
  rw [Nat.testBit_mod_two_pow, decide_eq_true hx]
theorem members_split_up (w s : Nat) : ((VapktBase.members (w + 1) s).filter fun h => decide (2 ^ w ≤ h)).map (· - 2 ^ w) = VapktBase.members w (s / 2 ^ 2 ^ w) := by
  unfold VapktBase.members VapktBase.headers VapktBase.has
  rw [List.filter_filter]
  have e : 2 ^ (w + 1) = 2 ^ w + 2 ^ w := by rw [Nat.pow_succ]; omega
  rw [e, List.range_add, List.filter_append]
  have z : (List.filter (fun a => decide (2 ^ w ≤ a) && s.testBit a) (List.range (2 ^ w))) = [] := by
    refine List.filter_eq_nil_iff.mpr fun a ha => ?_
    have := List.mem_range.mp ha
    simp; omega
  rw [z, List.nil_append, List.filter_map, List.map_map]
  have i : ((fun x => x - 2 ^ w) ∘ fun x => 2 ^ w + x) = id := by
    funext x
    show 2 ^ w + x - 2 ^ w = x
    omega
  rw [i, List.map_id]
  refine List.filter_congr fun x hx => ?_
  show (decide (2 ^ w ≤ 2 ^ w + x) && s.testBit (2 ^ w + x)) = _
  rw [decide_eq_true (by omega), Bool.true_and, Nat.testBit_div_two_pow, Nat.add_comm]
theorem pats_members : ∀ (w s : Nat), s < 2 ^ 2 ^ w → pats w (VapktBase.members w s) = VapktBase.formOf w s
  | 0, s, hs => by
    have hs : s < 2 := hs
    have : s = 0 ∨ s = 1 := by omega
    rcases this with rfl | rfl <;> rfl
  | w + 1, s, hs => by
    have e : 2 ^ (w + 1) = 2 ^ w + 2 ^ w := by rw [Nat.pow_succ]; omega
    have hlow : s % 2 ^ 2 ^ w < 2 ^ 2 ^ w := Nat.mod_lt _ (Nat.two_pow_pos _)
    have hup : s / 2 ^ 2 ^ w < 2 ^ 2 ^ w := by
      refine Nat.div_lt_of_lt_mul ?_
      rw [← Nat.pow_add, ← e]
      exact hs
    unfold pats
    rw [members_split_low, members_split_up, pats_members w _ hlow, pats_members w _ hup]
    have f : VapktBase.formOf (w + 1) s = if s % 2 ^ 2 ^ w = s / 2 ^ 2 ^ w then VapktBase.formOf w (s % 2 ^ 2 ^ w)
      else (VapktBase.formOf w (s % 2 ^ 2 ^ w)).map (fun p => ⟨p.told + 2 ^ w, p.bits⟩) ++ (VapktBase.formOf w (s / 2 ^ 2 ^ w)).map fun p => ⟨p.told + 2 ^ w, p.bits + 2 ^ w⟩ := rfl
    rw [f]
    by_cases hm : VapktBase.members (w + 1) s = []
    · rw [if_pos hm]
      have z : s = 0 := members_inj (w := w + 1) hs (Nat.two_pow_pos _) (by rw [hm]; unfold VapktBase.members VapktBase.has; simp)
      subst z
      rw [Nat.zero_mod, Nat.zero_div, if_pos rfl, ← pats_members w 0 (Nat.two_pow_pos _)]
      have : VapktBase.members w 0 = [] := by unfold VapktBase.members VapktBase.has; simp
      rw [this, pats_nil]
    · rw [if_neg hm]
      by_cases he : s % 2 ^ 2 ^ w = s / 2 ^ 2 ^ w
      · rw [if_pos he, if_pos (by rw [he])]
      · rw [if_neg he, if_neg fun q => he (members_inj hlow hup q)]
        have l1 : ∀ p ∈ VapktBase.formOf w (s % 2 ^ 2 ^ w), p.told < 2 ^ w ∧ p.bits < 2 ^ w := fun p hp => by
          rw [← pats_members w _ hlow] at hp
          exact pats_lt w _ p hp
        have l2 : ∀ p ∈ VapktBase.formOf w (s / 2 ^ 2 ^ w), p.told < 2 ^ w ∧ p.bits < 2 ^ w := fun p hp => by
          rw [← pats_members w _ hup] at hp
          exact pats_lt w _ p hp
        congr 1
        · exact List.map_congr_left fun p hp => by rw [or_two_pow (l1 p hp).1]
        · exact List.map_congr_left fun p hp => by rw [or_two_pow (l2 p hp).1, or_two_pow (l2 p hp).2]
/-- a set told by its rising list -/
theorem form_of_list (w : Nat) (f : Nat → Bool) : VapktBase.formOf w (VapktBase.setOf w f) = pats w ((List.range (2 ^ w)).filter f) := by
  rw [← pats_members w _ (setOf_lt w f), members_setOf]
end Rt

/-! Plain laws, part 2: what is read; what is well formed -/
namespace Rt
open VapktBase (Rule Action Table Rewrite)
theorem rn_nil (m : Nat) : VapktBase.readNat 0 m [] = none := rfl
theorem rn_cons (m : Nat) (z : Int) (r : List Int) : VapktBase.readNat 0 m (z :: r) = if 0 ≤ z ∧ z ≤ (m : Int) then some (z.toNat, r) else none := rfl
theorem drop_at {ns : List Int} {i : Nat} {z : Int} (h : ns[i]? = some z) : ns.drop i = z :: ns.drop (i + 1) := by
  obtain ⟨h1, h2⟩ := List.getElem?_eq_some_iff.mp h
  rw [List.drop_eq_getElem_cons h1, h2]
theorem rn_at {ns : List Int} {i m : Nat} {z : Int} (h : ns[i]? = some z) : VapktBase.readNat 0 m (ns.drop i) = if 0 ≤ z ∧ z ≤ (m : Int) then some (z.toNat, ns.drop (i + 1)) else none := by
  rw [drop_at h, rn_cons]
theorem rn_end {ns : List Int} {i m : Nat} (h : ns.length ≤ i) : VapktBase.readNat 0 m (ns.drop i) = none := by
  rw [List.drop_eq_nil_of_le h]
  rfl
theorem rp_eq (w : Nat) (l : List Int) : VapktBase.readPattern w l = (VapktBase.readNat 0 (2 ^ w - 1) l).bind fun a => (VapktBase.readNat 0 (2 ^ w - 1) a.2).bind fun b => if b.1 &&& a.1 = b.1 then some (⟨a.1, b.1⟩, b.2) else none := by
  show ((VapktBase.readNat 0 (2 ^ w - 1) l).bind fun u => (VapktBase.readNat 0 (2 ^ w - 1) u.2).map fun v => ((u.1, v.1), v.2)).bind _ = _
  cases VapktBase.readNat 0 (2 ^ w - 1) l with
  | none => rfl
  | some a =>
    show ((VapktBase.readNat 0 (2 ^ w - 1) a.2).map fun v => ((a.1, v.1), v.2)).bind _ = (VapktBase.readNat 0 (2 ^ w - 1) a.2).bind _
    cases VapktBase.readNat 0 (2 ^ w - 1) a.2 with
    | none => rfl
    | some b => rfl
theorem ra_eq (w : Nat) (l : List Int) : VapktBase.readAction w l = (VapktBase.readNat 0 1 l).bind fun k => if k.1 = 0 then some (.drop, k.2) else
    (VapktBase.readPattern w k.2).bind fun q => (VapktBase.readNat 0 5 q.2).bind fun p => some (.send ⟨q.1.told, q.1.bits⟩ p.1, p.2) := by
  cases l with
  | nil => rfl
  | cons z r =>
    rw [rn_cons]
    by_cases h0 : z = 0
    · subst h0
      rfl
    · by_cases h1 : z = 1
      · subst h1
        show ((VapktBase.readPair (VapktBase.readRewrite w) (VapktBase.readNat 0 5) r).map _) = (VapktBase.readPattern w r).bind _
        show ((((VapktBase.readPattern w r).map _).bind _).map _) = (VapktBase.readPattern w r).bind _
        cases VapktBase.readPattern w r with
        | none => rfl
        | some q =>
          show (((VapktBase.readNat 0 5 q.2).map _).map _) = (VapktBase.readNat 0 5 q.2).bind _
          cases VapktBase.readNat 0 5 q.2 with
          | none => rfl
          | some p => rfl
      · have e : VapktBase.readAction w (z :: r) = none := by
          unfold VapktBase.readAction
          split
          · rename_i h; cases h; exact absurd rfl h0
          · rename_i h; cases h; exact absurd rfl h1
          · rfl
        rw [e, if_neg (by omega)]
        rfl
theorem rr_eq (w : Nat) (l : List Int) : VapktBase.readRule w l = (VapktBase.readPattern w l).bind fun p => (VapktBase.readAction w p.2).bind fun a => some (⟨p.1, a.1⟩, a.2) := by
  show (((VapktBase.readPattern w l).bind fun u => (VapktBase.readAction w u.2).map fun v => ((u.1, v.1), v.2)).map _) = _
  cases VapktBase.readPattern w l with
  | none => rfl
  | some p =>
    show (((VapktBase.readAction w p.2).map _).map _) = (VapktBase.readAction w p.2).bind _
    cases VapktBase.readAction w p.2 with
    | none => rfl
    | some a => rfl
/-- so many of something -/
theorem rt_snoc {A : Type} (f : VapktBase.Reader A) : ∀ (n : Nat) (l : List Int), VapktBase.readTimes f (n + 1) l = (VapktBase.readTimes f n l).bind fun u => (f u.2).bind fun v => some (u.1 ++ [v.1], v.2)
  | 0, l => by
    show ((f l).bind fun u => (some (([] : List A), u.2)).map fun v => (u.1 :: v.1, v.2)) = (f l).bind fun v => some ([] ++ [v.1], v.2)
    cases f l with
    | none => rfl
    | some u => rfl
  | n + 1, l => by
    have ih := rt_snoc f n
    show ((f l).bind fun u => (VapktBase.readTimes f (n + 1) u.2).map fun v => (u.1 :: v.1, v.2)) = ((f l).bind fun u => (VapktBase.readTimes f n u.2).map fun v => (u.1 :: v.1, v.2)).bind _
    cases f l with
    | none => rfl
    | some u =>
      show (VapktBase.readTimes f (n + 1) u.2).map _ = ((VapktBase.readTimes f n u.2).map _).bind _
      rw [ih]
      cases VapktBase.readTimes f n u.2 with
      | none => rfl
      | some v =>
        show ((f v.2).bind _).map _ = (f v.2).bind _
        cases f v.2 with
        | none => rfl
        | some x => rfl
theorem rt_none {A : Type} (f : VapktBase.Reader A) {n : Nat} {l : List Int} (h : VapktBase.readTimes f n l = none) : ∀ k, VapktBase.readTimes f (n + k) l = none
  | 0 => h
  | k + 1 => by
    rw [show n + (k + 1) = (n + k) + 1 from rfl, rt_snoc, rt_none f h k]
    rfl
theorem rt_len {A : Type} (f : VapktBase.Reader A) : ∀ (n : Nat) (l r : List Int) (xs : List A), VapktBase.readTimes f n l = some (xs, r) → xs.length = n
  | 0, l, r, xs, h => by cases h; rfl
  | n + 1, l, r, xs, h => by
    rw [rt_snoc] at h
    obtain ⟨u, h1, h2⟩ := Option.bind_eq_some_iff.mp h
    obtain ⟨v, h3, h4⟩ := Option.bind_eq_some_iff.mp h2
    cases h4
    rw [List.length_append, rt_len f n l u.2 u.1 (by rw [h1])]
    rfl
theorem rt_all {A : Type} (f : VapktBase.Reader A) (G : A → Prop) (hf : ∀ l x r, f l = some (x, r) → G x) : ∀ (n : Nat) (l r : List Int) (xs : List A), VapktBase.readTimes f n l = some (xs, r) → ∀ x ∈ xs, G x
  | 0, l, r, xs, h, x, hx => by cases h; cases hx
  | n + 1, l, r, xs, h, x, hx => by
    rw [rt_snoc] at h
    obtain ⟨u, h1, h2⟩ := Option.bind_eq_some_iff.mp h
    obtain ⟨v, h3, h4⟩ := Option.bind_eq_some_iff.mp h2
    cases h4
    rcases List.mem_append.mp hx with hx | hx
    · exact rt_all f G hf n l u.2 u.1 (by rw [h1]) x hx
    · rw [List.mem_singleton.mp hx]
      exact hf _ _ _ h3
/-! ### well formed -/
def WFP (w : Nat) (p : VapktBase.Pattern) : Prop := p.told < 2 ^ w ∧ p.bits < 2 ^ w ∧ p.bits &&& p.told = p.bits
def WFA (w : Nat) : Action → Prop
  | .drop => True
  | .send r p => r.mask < 2 ^ w ∧ r.bits < 2 ^ w ∧ r.bits &&& r.mask = r.bits ∧ p ≤ 5
def WFR (w : Nat) (r : Rule) : Prop := WFP w r.pattern ∧ WFA w r.action
def WFT (w : Nat) (t : Table) : Prop := t.length ≤ 8 ∧ ∀ r ∈ t, WFR w r
theorem rn_le {m n : Nat} {l r : List Int} (h : VapktBase.readNat 0 m l = some (n, r)) : n ≤ m := by
  cases l with
  | nil => cases h
  | cons z l =>
    rw [rn_cons] at h
    by_cases c : 0 ≤ z ∧ z ≤ (m : Int)
    · rw [if_pos c] at h
      cases h
      omega
    · rw [if_neg c] at h
      cases h
theorem rp_wf {w : Nat} {l r : List Int} {p : VapktBase.Pattern} (h : VapktBase.readPattern w l = some (p, r)) : WFP w p := by
  rw [rp_eq] at h
  obtain ⟨a, h1, h2⟩ := Option.bind_eq_some_iff.mp h
  obtain ⟨b, h3, h4⟩ := Option.bind_eq_some_iff.mp h2
  by_cases c : b.1 &&& a.1 = b.1
  · rw [if_pos c] at h4
    cases h4
    have x1 := rn_le (n := a.1) (r := a.2) h1
    have x2 := rn_le (n := b.1) (r := b.2) h3
    have := Nat.two_pow_pos w
    exact ⟨by show a.1 < _; omega, by show b.1 < _; omega, c⟩
  · rw [if_neg c] at h4
    cases h4
theorem ra_wf {w : Nat} {l r : List Int} {x : Action} (h : VapktBase.readAction w l = some (x, r)) : WFA w x := by
  rw [ra_eq] at h
  obtain ⟨k, h1, h2⟩ := Option.bind_eq_some_iff.mp h
  by_cases c : k.1 = 0
  · rw [if_pos c] at h2
    cases h2
    trivial
  · rw [if_neg c] at h2
    obtain ⟨q, h3, h4⟩ := Option.bind_eq_some_iff.mp h2
    obtain ⟨p, h5, h6⟩ := Option.bind_eq_some_iff.mp h4
    cases h6
    obtain ⟨y1, y2, y3⟩ := rp_wf (p := q.1) (r := q.2) h3
    exact ⟨y1, y2, y3, rn_le (n := p.1) (r := p.2) h5⟩
theorem rr_wf {w : Nat} {l r : List Int} {x : Rule} (h : VapktBase.readRule w l = some (x, r)) : WFR w x := by
  rw [rr_eq] at h
  obtain ⟨p, h1, h2⟩ := Option.bind_eq_some_iff.mp h
  obtain ⟨a, h3, h4⟩ := Option.bind_eq_some_iff.mp h2
  cases h4
  exact ⟨rp_wf (p := p.1) (r := p.2) h1, ra_wf (x := a.1) (r := a.2) h3⟩
theorem tableOf_eq (w : Nat) (l : List Int) : Vapktb.tableOf w l = ((VapktBase.readNat 0 8 l).bind fun n => VapktBase.readTimes (VapktBase.readRule w) n.1 n.2).bind fun u => if u.2 = [] then some u.1 else none := by
  unfold Vapktb.tableOf
  show (match ((VapktBase.readNat 0 8 l).bind fun n => VapktBase.readTimes (VapktBase.readRule w) n.1 n.2) with | some (t, []) => some t | _ => none) = _
  cases ((VapktBase.readNat 0 8 l).bind fun n => VapktBase.readTimes (VapktBase.readRule w) n.1 n.2) with
  | none => rfl
  | some u =>
    obtain ⟨t, r⟩ := u
    cases r with
    | nil => rfl
    | cons z r => rfl
theorem ruleOf_eq (w : Nat) (l : List Int) : Vapktb.ruleOf w l = (VapktBase.readRule w l).bind fun u => if u.2 = [] then some u.1 else none := by
  unfold Vapktb.ruleOf
  cases VapktBase.readRule w l with
  | none => rfl
  | some u =>
    obtain ⟨t, r⟩ := u
    cases r with
    | nil => rfl
    | cons z r => rfl
/-- the patterns of from -/
def patsOf (w : Nat) (l : List Int) : Option (List VapktBase.Pattern) := ((VapktBase.readNat 0 8 l).bind fun n => VapktBase.readTimes (VapktBase.readPattern w) n.1 n.2).bind fun u => if u.2 = [] then some u.1 else none
theorem setOfPatterns_eq (w : Nat) (l : List Int) : Vapktb.setOfPatterns w l = (patsOf w l).map fun ps => ps.foldl (fun s p => VapktBase.either s (VapktBase.patternSet w p)) 0 := by
  unfold Vapktb.setOfPatterns patsOf
  show (match ((VapktBase.readNat 0 8 l).bind fun n => VapktBase.readTimes (VapktBase.readPattern w) n.1 n.2) with | some (t, []) => _ | _ => none) = _
  cases ((VapktBase.readNat 0 8 l).bind fun n => VapktBase.readTimes (VapktBase.readPattern w) n.1 n.2) with
  | none => rfl
  | some u =>
    obtain ⟨t, r⟩ := u
    cases r with
    | nil => rfl
    | cons z r => rfl
theorem tableOf_wf {w : Nat} {l : List Int} {t : Table} (h : Vapktb.tableOf w l = some t) : WFT w t := by
  rw [tableOf_eq] at h
  obtain ⟨u, h1, h2⟩ := Option.bind_eq_some_iff.mp h
  obtain ⟨n, h3, h4⟩ := Option.bind_eq_some_iff.mp h1
  by_cases c : u.2 = []
  · rw [if_pos c] at h2
    cases h2
    have h4 : VapktBase.readTimes (VapktBase.readRule w) n.1 n.2 = some (u.1, u.2) := h4
    exact ⟨by rw [rt_len _ _ _ _ _ h4]; exact rn_le (n := n.1) (r := n.2) h3, rt_all _ (WFR w) (fun _ _ _ q => rr_wf q) _ _ _ _ h4⟩
  · rw [if_neg c] at h2
    cases h2
theorem ruleOf_wf {w : Nat} {l : List Int} {t : Rule} (h : Vapktb.ruleOf w l = some t) : WFR w t := by
  rw [ruleOf_eq] at h
  obtain ⟨u, h1, h2⟩ := Option.bind_eq_some_iff.mp h
  by_cases c : u.2 = []
  · rw [if_pos c] at h2
    cases h2
    exact rr_wf (x := u.1) (r := u.2) h1
  · rw [if_neg c] at h2
    cases h2
theorem patsOf_wf {w : Nat} {l : List Int} {t : List VapktBase.Pattern} (h : patsOf w l = some t) : t.length ≤ 8 ∧ ∀ p ∈ t, WFP w p := by
  unfold patsOf at h
  obtain ⟨u, h1, h2⟩ := Option.bind_eq_some_iff.mp h
  obtain ⟨n, h3, h4⟩ := Option.bind_eq_some_iff.mp h1
  by_cases c : u.2 = []
  · rw [if_pos c] at h2
    cases h2
    have h4 : VapktBase.readTimes (VapktBase.readPattern w) n.1 n.2 = some (u.1, u.2) := h4
    exact ⟨by rw [rt_len _ _ _ _ _ h4]; exact rn_le (n := n.1) (r := n.2) h3, rt_all _ (WFP w) (fun _ _ _ q => rp_wf q) _ _ _ _ h4⟩
  · rw [if_neg c] at h2
    cases h2
end Rt

/-! How patterns, rules, tables .. lie in the heap -/
namespace Rt
open PySem PySem.Spec PyProof.Rows L2
open VapktBase (Rule Action Table Rewrite)
abbrev Pat := VapktBase.Pattern

theorem snew {H : Hp} {p : Addr} {o : HO} (h : H p = none) : Same H (upd H p o) := fun b u e => by rw [upd_ne (ne_of_none e h)]; exact e
/-- all but what stands at R is as it was -/
def Keep (R : Addr) (H H' : Hp) : Prop := ∀ b o, H b = some o → b ≠ R → H' b = some o
theorem Keep.of {R : Addr} {H H' : Hp} (s : Same H H') : Keep R H H' := fun b o e _ => s b o e
theorem Keep.trans {R : Addr} {H H1 H2 : Hp} (a : Keep R H H1) (b : Keep R H1 H2) : Keep R H H2 := fun c o e n => b c o (a c o e n) n
theorem keep_upd {R : Addr} {H : Hp} {o : HO} : Keep R H (upd H R o) := fun b u e n => by rw [upd_ne n]; exact e
/-- an if whose test is known -/
theorem ifT {c : Bool} {A B : Prop} (hc : c = true) (h : A) : if c = true then A else B := by rw [if_pos hc]; exact h
theorem ifF {c : Bool} {A B : Prop} (hc : c = false) (h : B) : if c = true then A else B := by rw [hc, if_neg Bool.false_ne_true]; exact h

/-! ### fields -/
theorem lk1 {k : Str} {v : V} {r : List (Str × V)} : List.lookup k ((k, v) :: r) = some v := by
  have e : (k == k) = true := beq_self_eq_true k
  simp only [List.lookup, e]
theorem lk2 {k g : Str} {v : V} {r : List (Str × V)} (h : (k == g) = false) : List.lookup k ((g, v) :: r) = List.lookup k r := by
  simp only [List.lookup, h]
theorem lkn (k : Str) : List.lookup k ([] : List (Str × V)) = none := rfl
theorem pf1 {f : Str} {v x : V} {r : List (Str × V)} : putF f v ((f, x) :: r) = (f, v) :: r := if_pos rfl
theorem pf2 {f g : Str} {v x : V} {r : List (Str × V)} (h : ¬ g = f) : putF f v ((g, x) :: r) = (g, x) :: putF f v r := if_neg h

/-! ### what stands where -/
def PatAt (H : Hp) (a : Addr) (p : Pat) : Prop := H a = some (.tup [.int (p.told : Nat), .int (p.bits : Nat)])
def actV : Action → List V
  | .drop => [.int 0]
  | .send r p => [.int 1, .int (r.mask : Nat), .int (r.bits : Nat), .int (p : Nat)]
def ActAt (H : Hp) (a : Addr) (x : Action) : Prop := H a = some (.tup (actV x))
def RuleAt (H : Hp) (a : Addr) (r : Rule) : Prop := ∃ b c, H a = some (.tup [.ref b, .ref c]) ∧ PatAt H b r.pattern ∧ ActAt H c r.action
/-- a list of objects -/
def LstAt {α : Type} (R : Hp → Addr → α → Prop) (H : Hp) (a : Addr) (xs : List α) : Prop := ∃ as : List Addr, H a = some (.lst (as.map V.ref)) ∧ Paired (R H) as xs
abbrev TabAt : Hp → Addr → Table → Prop := LstAt RuleAt
abbrev PatsAt : Hp → Addr → List Pat → Prop := LstAt PatAt
def IntsAt (H : Hp) (a : Addr) (ns : List Int) : Prop := H a = some (.lst (ns.map V.int))
def outV : Vapktb.Outcome → List V
  | .hole => [.int 0]
  | .dropped => [.int 1]
  | .sent p h => [.int 2, .int (p : Nat), .int (h : Nat)]
def OutAt (H : Hp) (a : Addr) (x : Vapktb.Outcome) : Prop := H a = some (.tup (outV x))
section
variable {H H' : Hp} {a : Addr}
theorem PatAt.same {p : Pat} (s : Same H H') (h : PatAt H a p) : PatAt H' a p := s _ _ h
theorem ActAt.same {p : Action} (s : Same H H') (h : ActAt H a p) : ActAt H' a p := s _ _ h
theorem OutAt.same {p : Vapktb.Outcome} (s : Same H H') (h : OutAt H a p) : OutAt H' a p := s _ _ h
theorem IntsAt.same {p : List Int} (s : Same H H') (h : IntsAt H a p) : IntsAt H' a p := s _ _ h
theorem RuleAt.same {p : Rule} (s : Same H H') (h : RuleAt H a p) : RuleAt H' a p := let ⟨b, c, h1, h2, h3⟩ := h; ⟨b, c, s _ _ h1, h2.same s, h3.same s⟩
theorem LstAt.imp {α : Type} {R : Hp → Addr → α → Prop} (m : ∀ a x, R H a x → R H' a x) {xs : List α} (s : ∀ o, H a = some o → H' a = some o) (h : LstAt R H a xs) : LstAt R H' a xs :=
  let ⟨as, h1, h2⟩ := h; ⟨as, s _ h1, Paired.mapP h2 m⟩
theorem TabAt.same {t : Table} (s : Same H H') (h : TabAt H a t) : TabAt H' a t := LstAt.imp (fun _ _ q => RuleAt.same s q) (fun _ e => s _ _ e) h
theorem PatsAt.same {t : List Pat} (s : Same H H') (h : PatsAt H a t) : PatsAt H' a t := LstAt.imp (fun _ _ q => PatAt.same s q) (fun _ e => s _ _ e) h
end
theorem Paired.at {α β : Type} {R : α → β → Prop} : ∀ {as : List α} {xs : List β} {i : Nat} {x : β}, Paired R as xs → xs[i]? = some x → ∃ a, as[i]? = some a ∧ R a x
  | _, _, _, _, .nil, h => by simp at h
  | _, _, 0, x, .cons (a := a) r _, h => by
    have e := Option.some.inj h
    subst e
    exact ⟨a, rfl, r⟩
  | _, _, i + 1, x, .cons _ t, h => Paired.at (i := i) t (by simpa using h)
theorem Paired.at' {α β : Type} {R : α → β → Prop} : ∀ {as : List α} {xs : List β} {i : Nat} {a : α}, Paired R as xs → as[i]? = some a → ∃ x, xs[i]? = some x ∧ R a x
  | _, _, _, _, .nil, h => by simp at h
  | _, _, 0, _, .cons (b := b) r _, h => by
    have e := Option.some.inj h
    subst e
    exact ⟨b, rfl, r⟩
  | _, _, i + 1, _, .cons _ t, h => Paired.at' (i := i) t (by simpa using h)
theorem Paired.take {α β : Type} {R : α → β → Prop} : ∀ {as : List α} {xs : List β} (i : Nat), Paired R as xs → Paired R (as.take i) (xs.take i)
  | _, _, 0, _ => .nil
  | _, _, _ + 1, .nil => .nil
  | _, _, i + 1, .cons r t => .cons r (Paired.take i t)
theorem Paired.drop {α β : Type} {R : α → β → Prop} : ∀ {as : List α} {xs : List β} (i : Nat), Paired R as xs → Paired R (as.drop i) (xs.drop i)
  | _, _, 0, h => h
  | _, _, _ + 1, .nil => .nil
  | _, _, i + 1, .cons _ t => Paired.drop i t
theorem Paired.app {α β : Type} {R : α → β → Prop} : ∀ {as bs : List α} {xs ys : List β}, Paired R as xs → Paired R bs ys → Paired R (as ++ bs) (xs ++ ys)
  | _, _, _, _, .nil, h => h
  | _, _, _, _, .cons r t, h => .cons r (Paired.app t h)
theorem Paired.len {α β : Type} {R : α → β → Prop} : ∀ {as : List α} {xs : List β}, Paired R as xs → as.length = xs.length
  | _, _, .nil => rfl
  | _, _, .cons _ t => congrArg (· + 1) (Paired.len t)

/-! ### what leans on tuples alone -/
def TupStay (H H' : Hp) : Prop := ∀ b xs, H b = some (.tup xs) → H' b = some (.tup xs)
theorem stay_same {H H' : Hp} (s : Same H H') : TupStay H H' := fun b xs e => s _ _ e
theorem stay_keep {H H' : Hp} {R C dx : Addr} {fs : List (Str × V)} (e : H R = some (.ins C dx fs)) (k : Keep R H H') : TupStay H H' := fun b xs h => k _ _ h fun z => by rw [z, e] at h; cases h
theorem stay_keepL {H H' : Hp} {R : Addr} {l : List V} (e : H R = some (.lst l)) (k : Keep R H H') : TupStay H H' := fun b xs h => k _ _ h fun z => by rw [z, e] at h; cases h
theorem stay_lst {H : Hp} {D : Addr} {l : List V} {o : HO} (e : H D = some (.lst l)) : TupStay H (upd H D o) := fun b xs h => by rw [upd_ne (fun z => by rw [z, e] at h; cases h)]; exact h
theorem TupStay.trans {H H1 H2 : Hp} (a : TupStay H H1) (b : TupStay H1 H2) : TupStay H H2 := fun c xs h => b _ _ (a _ _ h)
def OnTups {α : Type} (At : Hp → Addr → α → Prop) : Prop := ∀ H H' a x, TupStay H H' → At H a x → At H' a x
theorem pat_tups : OnTups PatAt := fun _ _ _ _ s h => s _ _ h
theorem act_tups : OnTups ActAt := fun _ _ _ _ s h => s _ _ h
theorem out_tups : OnTups OutAt := fun _ _ _ _ s h => s _ _ h
theorem rule_tups : OnTups RuleAt := fun _ _ _ _ s h => let ⟨b, c, h1, h2, h3⟩ := h; ⟨b, c, s _ _ h1, s _ _ h2, s _ _ h3⟩
theorem paired_tups {α : Type} {At : Hp → Addr → α → Prop} (t : OnTups At) {H H' : Hp} {as : List Addr} {xs : List α} (s : TupStay H H') (p : Paired (At H) as xs) : Paired (At H') as xs := Paired.mapP p fun a x h => t _ _ a x s h

/-! ### the reader of numbers -/
def rdF (na : Addr) (i n : Int) : List (Str × V) := [("numbers", .ref na), ("at", .int i), ("bits", .int n)]
def RdAt (K : PySem.W.Frag) (C : Addr) (H : Hp) (R na : Addr) (ns : List Int) (i w : Nat) : Prop :=
  (∃ dx, H R = some (.ins C dx (rdF na (i : Nat) (w : Nat)))) ∧ SqL K H na (ns.map V.int) ∧ i ≤ ns.length
theorem SqL.keepI {K : PySem.W.Frag} {H H' : Hp} {R na C dx : Addr} {fs : List (Str × V)} {xs : List V} (e : H R = some (.ins C dx fs)) (k : Keep R H H') (h : SqL K H na xs) : SqL K H' na xs := by
  have ne : ∀ {o : HO}, H na = some o → (∀ C dx fs, o ≠ .ins C dx fs) → na ≠ R := fun {o} q n z => by
    rw [z, e] at q
    exact n _ _ _ (Option.some.inj q).symm
  rcases h with (h | ⟨o, h⟩) | h
  · exact .inl (.inl (k _ _ h (ne h (by intro _ _ _ z; cases z))))
  · exact .inl (.inr ⟨o, k _ _ h (ne h (by intro _ _ _ z; cases z))⟩)
  · exact .inr h
theorem len_ref {H : Hp} {K : PySem.W.Frag} {a : Addr} {xs : List V} (h : SqL K H a xs) : SqL K H a xs ∨ SqT K H a xs := .inl h
end Rt

/-! need, the Reader -/
namespace Rt
open PySem PySem.Spec PyProof.Rows L2
open VapktBase (Rule Action Table Rewrite)
section
variable {P : Program} {w : World} {K : PySem.W.Frag} {mg : Str → Option Value} {base : Heap}
def spNeed (CN : Addr) : Sp := fun vs H Q E => ∃ b, vs = [.bl b] ∧ (b = true → Q .non H) ∧ (b = false → E (.ref CN) none H)
theorem ok_need (T : Txt K mg) : FnOk P w K mg base (L2.CX P w) 1 T.need.f T.need.fd ["truth"] (spNeed T.cNR) := by
  refine T.need.fn.okX sc_need (fun vs H Q E h => ?_) (fun cdv A outer s H vs Q E hr h => ⟨_, (pss_one (ps_if (pt_not (pt_val (pv 0))) (pss_one (ps_raise rfl (takes_of rfl rfl rfl rfl) (pmk_own PySem.F.excBase_ValueError T.xF T.gF T.kF (raises_own T.bF T.tF) (by exact rfl)))) pss_nil)), ?_⟩)
  · obtain ⟨b, rfl, _⟩ := h
    rfl
  · obtain ⟨b, rfl, kT, kF⟩ := h
    refine ⟨_, rfl, b, rfl, ?_⟩
    cases b with
    | true => exact ifF rfl (kT rfl)
    | false => exact ifT rfl (kF rfl)
def spRInit (K : PySem.W.Frag) (C : Addr) : Sp := fun vs H Q _ => ∃ (R dx na : Addr) (ns : List Int) (n : Nat), vs = [.ref R, .ref na, .int (n : Nat)] ∧ H R = some (.ins C dx []) ∧ SqL K H na (ns.map V.int) ∧
  ∀ H', RdAt K C H' R na ns 0 n → Keep R H H' → Q .non H'
theorem ok_Reader_init (T : Txt K mg) : FnOk P w K mg base CX0 1 T.Reader_init.f T.Reader_init.fd ["self", "numbers", "bits"] (spRInit K T.cReader) := by
  refine T.Reader_init.fn.ok sc_Reader_init (fun vs H Q E h => ?_) (fun cdv A outer s H vs Q E hr h => ⟨_, (pss_cons (ps_fld (pv 0) (pv 1) rfl)
      (pss_cons (ps_fld (pv 0) pe_int rfl)
      (pss_one (ps_fld (pv 0) (pv 2) rfl)))), ?_⟩)
  · obtain ⟨R, dx, na, ns, n, rfl, _⟩ := h
    rfl
  · obtain ⟨R, dx, na, ns, n, rfl, hR, hS, k⟩ := h
    refine ⟨_, rfl, _, rfl, R, T.cReader, dx, [], rfl, hR, T.kReader, T.nReader_numbers, (by show 0 < 1000; decide), ?_⟩
    refine ⟨_, rfl, R, T.cReader, dx, _, rfl, upd_same, T.kReader, T.nReader_at, (by show 1 < 1000; decide), ?_⟩
    refine ⟨_, rfl, _, rfl, R, T.cReader, dx, _, rfl, upd_same, T.kReader, T.nReader_bits, (by show 2 < 1000; decide), ?_⟩
    have kp : Keep R H (upd (upd (upd H R (.ins T.cReader dx (putF "numbers" (.ref na) []))) R (.ins T.cReader dx (putF "at" (.int 0) (putF "numbers" (.ref na) [])))) R
        (.ins T.cReader dx (putF "bits" (.int (n : Nat)) (putF "at" (.int 0) (putF "numbers" (.ref na) []))))) := (keep_upd.trans keep_upd).trans keep_upd
    refine k _ ⟨⟨dx, ?_⟩, SqL.keepI hR kp hS, Nat.zero_le _⟩ kp
    rw [upd_same]
    refine congrArg (fun q => some (HO.ins T.cReader dx q)) ?_
    show putF "bits" (.int (n : Nat)) (putF "at" (.int 0) [("numbers", .ref na)]) = _
    rw [pf2 (by decide +kernel)]
    show putF "bits" (.int (n : Nat)) [("numbers", .ref na), ("at", .int 0)] = _
    rw [pf2 (by decide +kernel), pf2 (by decide +kernel)]
    rfl
/-- the reader's fields -/
theorem rd_numbers {na : Addr} {i n : Int} : List.lookup ("numbers" : Str) (rdF na i n) = some (.ref na) := lk1
theorem rd_at {na : Addr} {i n : Int} : List.lookup ("at" : Str) (rdF na i n) = some (.int i) := (lk2 (by decide +kernel)).trans lk1
theorem rd_bits {na : Addr} {i n : Int} : List.lookup ("bits" : Str) (rdF na i n) = some (.int n) := (lk2 (by decide +kernel)).trans ((lk2 (by decide +kernel)).trans lk1)
theorem rd_no {m : Str} {na : Addr} {i n : Int} (h1 : (m == ("numbers" : Str)) = false := by decide +kernel) (h2 : (m == ("at" : Str)) = false := by decide +kernel) (h3 : (m == ("bits" : Str)) = false := by decide +kernel) :
    List.lookup m (rdF na i n) = none := (lk2 h1).trans ((lk2 h2).trans ((lk2 h3).trans rfl))
theorem rd_put {na : Addr} {i j n : Int} : putF "at" (.int j) (rdF na i n) = rdF na j n := (pf2 (by decide +kernel)).trans (congrArg _ pf1)
def spRTake (K : PySem.W.Frag) (C CN : Addr) : Sp := fun vs H Q E => ∃ (R na : Addr) (ns : List Int) (i n m : Nat), vs = [.ref R, .int (m : Nat)] ∧ RdAt K C H R na ns i n ∧
  (∀ x, VapktBase.readNat 0 m (ns.drop i) = some (x, ns.drop (i + 1)) → ∀ H', RdAt K C H' R na ns (i + 1) n → Keep R H H' → Q (.int (x : Nat)) H') ∧
  (VapktBase.readNat 0 m (ns.drop i) = none → ∀ H', Keep R H H' → E (.ref CN) none H')
theorem ok_Reader_take (T : Txt K mg) : FnOk P w K mg base (L2.CX P w) 2 T.Reader_take.f T.Reader_take.fd ["self", "most"] (spRTake K T.cReader T.cNR) := by
  refine T.Reader_take.fn.okX sc_Reader_take (fun vs H Q E h => ?_) (fun cdv A outer s H vs Q E hr h => ⟨_, (pss_cons (ps_expr (pe_call (ok_need T) (hr.mono (by decide)) rfl T.need.gl T.need.kp T.need.bd .nil (passes_call (takes_of rfl rfl rfl rfl) (fun _ _ _ _ h => h)) (pa_cons (pe_cmpR op_lt (pe_fld (pv 0) rfl) (pe_callB call_len_seq (by rfl) T.zlen PySem.boot_len (pa_cons (pe_fld (pv 0) rfl) pa_nil)) (nomark _)) pa_nil)))
      (pss_cons (ps_fldaug (pv 0) pe_int in_add)
      (pss_cons (ps_expr (pe_call (ok_need T) (hr.mono (by decide)) rfl T.need.gl T.need.kp T.need.bd .nil (passes_call (takes_of rfl rfl rfl rfl) (fun _ _ _ _ h => h)) (pa_cons (pe_chain op_le op_le pe_int (pe_ix ix_list (pe_fld (pv 0) rfl) (pe_op op_sub (pe_fld (pv 0) rfl) pe_int) (fun _ _ => rfl)) (pv 1)) pa_nil)))
      (pss_one (ps_ret (pe_ix ix_list (pe_fld (pv 0) rfl) (pe_op op_sub (pe_fld (pv 0) rfl) pe_int) (fun _ _ => rfl))))))), ?_⟩)
  · obtain ⟨R, na, ns, i, n, m, rfl, _⟩ := h
    rfl
  · obtain ⟨R, na, ns, i, n, m, rfl, ⟨⟨dx, hR⟩, hS, hi⟩, kS, kN⟩ := h
    -- need(self.at < len(self.numbers))
    refine ⟨_, rfl, R, T.cReader, dx, _, _, rfl, hR, T.kReader, T.nReader_at, rd_at, _, rfl, R, T.cReader, dx, _, _, rfl, hR, T.kReader, T.nReader_numbers, rd_numbers, na, _, rfl, .inl hS, _, _, rfl, rfl, ?_⟩
    refine ⟨_, rfl, fun c1 => ?_, fun c1 => kN (rn_end ?_) _ fun b o e _ => e⟩
    rotate_left
    · have c1 := of_decide_eq_false c1
      rw [List.length_map] at c1
      omega
    have c1 := of_decide_eq_true c1
    rw [List.length_map] at c1
    have hlt : i < ns.length := by omega
    obtain ⟨z, hz⟩ : ∃ z, ns[i]? = some z := ⟨_, List.getElem?_eq_getElem hlt⟩
    -- self.at += 1
    refine ⟨_, rfl, R, T.cReader, dx, _, _, rfl, hR, T.kReader, T.nReader_at, rd_at, _, _, rfl, rfl, dx, _, hR, (by show 3 < 1000; decide), ?_⟩
    rw [rd_put]
    have kp : Keep R H (upd H R (.ins T.cReader dx (rdF na ((i : Nat) + 1) (n : Nat)))) := keep_upd
    generalize hH1 : upd H R (.ins T.cReader dx (rdF na ((i : Nat) + 1) (n : Nat))) = H1 at kp ⊢
    have hR1 : H1 R = some (.ins T.cReader dx (rdF na ((i : Nat) + 1) (n : Nat))) := by rw [← hH1]; exact upd_same
    have hS1 := SqL.keepI hR kp hS
    have hat : atI (ns.map V.int) ((i : Int) + 1 - 1) = some (.int z) := at_of (j := i) (by omega) (by rw [List.getElem?_map, hz]; rfl)
    have re : VapktBase.readNat 0 m (ns.drop i) = if 0 ≤ z ∧ z ≤ (m : Int) then some (z.toNat, ns.drop (i + 1)) else none := rn_at hz
    have fin : z = ((z.toNat : Nat) : Int) → (0 ≤ z ∧ z ≤ (m : Int)) → Q (.int z) H1 := fun e c => by
      rw [if_pos c] at re
      rw [e]
      exact kS _ re H1 ⟨⟨dx, hR1⟩, hS1, hlt⟩ kp
    -- need(0 <= self.numbers[self.at - 1] <= most)
    refine ⟨_, rfl, R, T.cReader, dx, _, _, rfl, hR1, T.kReader, T.nReader_numbers, rd_numbers, _, rfl, R, T.cReader, dx, _, _, rfl, hR1, T.kReader, T.nReader_at, rd_at, _, _, rfl, rfl, na, _, _, _, rfl, rfl, hS1, hat, _, _, rfl, rfl, _, rfl, ?_⟩
    by_cases c2 : (0 : Int) ≤ z
    · refine ifT (decide_eq_true c2) ⟨_, rfl, _, _, rfl, rfl, _, rfl, fun c3 => ?_, fun c3 => kN ?_ _ kp⟩
      rotate_left
      · have c3 := of_decide_eq_false c3
        rw [re, if_neg (by omega)]
      have c3 := of_decide_eq_true c3
      refine ⟨_, rfl, R, T.cReader, dx, _, _, rfl, hR1, T.kReader, T.nReader_numbers, rd_numbers, _, rfl, R, T.cReader, dx, _, _, rfl, hR1, T.kReader, T.nReader_at, rd_at, _, _, rfl, rfl, na, _, _, _, rfl, rfl, hS1, hat, ?_⟩
      exact fin (by omega) ⟨c2, c3⟩
    · refine ifF (decide_eq_false c2) ⟨_, rfl, fun c3 => (nomatch c3), fun _ => kN ?_ _ kp⟩
      rw [re, if_neg (fun c => c2 c.1)]
end
end Rt

/-! the Reader's patterns and rules; tables of numbers -/
namespace Rt
open PySem PySem.Spec PyProof.Rows L2
open VapktBase (Rule Action Table Rewrite)
theorem shl1 (n : Nat) : (1 : Int) * 2 ^ (Int.toNat (n : Int)) = ((2 ^ n : Nat) : Int) := by
  rw [Int.one_mul, Int.toNat_natCast, Int.natCast_pow]
  rfl
theorem shl1m (n : Nat) : (1 : Int) * 2 ^ (Int.toNat (n : Int)) - 1 = ((2 ^ n - 1 : Nat) : Int) := by
  rw [shl1]
  have := Nat.two_pow_pos n
  omega
theorem cpow1 {n : Nat} (h : n ≤ 7) : CPow 1 (n : Int) := ⟨by omega, by omega, by decide⟩
theorem band (a b : Nat) : Builtin.bitAnd (a : Int) (b : Int) = ((a &&& b : Nat) : Int) := by
  rw [bitAnd_pp (by omega) (by omega), Int.toNat_natCast, Int.toNat_natCast]
theorem bor (a b : Nat) : Builtin.bitOr (a : Int) (b : Int) = ((a ||| b : Nat) : Int) := by
  rw [_root_.Bits.bitOr_pp (by omega) (by omega), Int.toNat_natCast, Int.toNat_natCast]
theorem bxor (a b : Nat) : Builtin.bitXor (a : Int) (b : Int) = ((a ^^^ b : Nat) : Int) := by
  rw [_root_.Bits.bitXor_pp (by omega) (by omega), Int.toNat_natCast, Int.toNat_natCast]
section
variable {P : Program} {w : World} {K : PySem.W.Frag} {mg : Str → Option Value} {base : Heap}
def spREnd (K : PySem.W.Frag) (C CN : Addr) : Sp := fun vs H Q E => ∃ (R na : Addr) (ns : List Int) (i n : Nat), vs = [.ref R] ∧ RdAt K C H R na ns i n ∧ (ns.drop i = [] → Q .non H) ∧ (ns.drop i ≠ [] → E (.ref CN) none H)
theorem ok_Reader_look_at_end (T : Txt K mg) : FnOk P w K mg base (L2.CX P w) 2 T.Reader_look_at_end.f T.Reader_look_at_end.fd ["self"] (spREnd K T.cReader T.cNR) := by
  refine T.Reader_look_at_end.fn.okX sc_Reader_look_at_end (fun vs H Q E h => ?_) (fun cdv A outer s H vs Q E hr h => ⟨_, (pss_one (ps_expr (pe_call (ok_need T) (hr.mono (by decide)) rfl T.need.gl T.need.kp T.need.bd .nil (passes_call (takes_of rfl rfl rfl rfl) (fun _ _ _ _ h => h)) (pa_cons (pe_cmpR op_eq (pe_fld (pv 0) rfl) (pe_callB call_len_seq (by rfl) T.zlen PySem.boot_len (pa_cons (pe_fld (pv 0) rfl) pa_nil)) (nomark _)) pa_nil)))), ?_⟩)
  · obtain ⟨R, na, ns, i, n, rfl, _⟩ := h
    rfl
  · obtain ⟨R, na, ns, i, n, rfl, ⟨⟨dx, hR⟩, hS, hi⟩, kS, kN⟩ := h
    refine ⟨_, rfl, R, T.cReader, dx, _, _, rfl, hR, T.kReader, T.nReader_at, rd_at, _, rfl, R, T.cReader, dx, _, _, rfl, hR, T.kReader, T.nReader_numbers, rd_numbers, na, _, rfl, .inl hS, rfl, _, rfl, fun c => ?_, fun c => ?_⟩
    · have c := V.int.inj (of_decide_eq_true c)
      rw [List.length_map] at c
      exact kS (List.drop_eq_nil_of_le (by omega))
    · have c := of_decide_eq_false c
      rw [List.length_map] at c
      refine kN fun z => c ?_
      have := List.drop_eq_nil_iff.mp z
      exact congrArg V.int (by omega)
def spRead {α : Type} (K : PySem.W.Frag) (C CN : Addr) (f : Nat → List Int → Option (α × List Int)) (At : Hp → Addr → α → Prop) : Sp := fun vs H Q E => ∃ (R na : Addr) (ns : List Int) (i n : Nat), vs = [.ref R] ∧ RdAt K C H R na ns i n ∧ n ≤ 7 ∧
  (∀ x j, f n (ns.drop i) = some (x, ns.drop j) → ∀ H' p, RdAt K C H' R na ns j n → Keep R H H' → At H' p x → Q (.ref p) H') ∧
  (f n (ns.drop i) = none → ∀ H', Keep R H H' → E (.ref CN) none H')
theorem spRead_len {α : Type} {K : PySem.W.Frag} {C CN : Addr} {f : Nat → List Int → Option (α × List Int)} {At : Hp → Addr → α → Prop} {vs : List V} {H : Hp} {Q : VK} {E : XK} (h : spRead K C CN f At vs H Q E) : vs.length = 1 := by
  obtain ⟨R, na, ns, i, n, rfl, _⟩ := h
  rfl
theorem RdAt.ne {K : PySem.W.Frag} {C : Addr} {H : Hp} {R na : Addr} {ns : List Int} {i n : Nat} (h : RdAt K C H R na ns i n) {p : Addr} {o : HO} (e : H p = none) : RdAt K C (upd H p o) R na ns i n ∧ Keep R H (upd H p o) := by
  obtain ⟨⟨dx, hR⟩, hS, hi⟩ := h
  exact ⟨⟨⟨dx, snew e _ _ hR⟩, (snew e).seq hS, hi⟩, Keep.of (snew e)⟩
theorem ok_Reader_pattern (T : Txt K mg) : FnOk P w K mg base (L2.CX P w) 3 T.Reader_pattern.f T.Reader_pattern.fd ["self"] (spRead K T.cReader T.cNR VapktBase.readPattern PatAt) := by
  refine T.Reader_pattern.fn.okX sc_Reader_pattern (fun vs H Q E h => ?_) (fun cdv A outer s H vs Q E hr h => ⟨_, (pss_cons (ps_set (i := 1) sc_Reader_pattern.nd rfl (Or.inl rfl) (pe_meth (pv 0) T.kReader T.Reader_take.me (ok_Reader_take T) (hr.mono (by decide)) T.Reader_take.bd .nil (passes_call (takes_of rfl rfl rfl rfl) (fun _ _ _ _ h => h)) (pa_cons (pe_op op_sub (pe_op op_shl pe_int (pe_fld (pv 0) rfl)) pe_int) pa_nil)))
      (pss_cons (ps_set (i := 2) sc_Reader_pattern.nd rfl (Or.inl rfl) (pe_meth (pv 0) T.kReader T.Reader_take.me (ok_Reader_take T) (hr.mono (by decide)) T.Reader_take.bd .nil (passes_call (takes_of rfl rfl rfl rfl) (fun _ _ _ _ h => h)) (pa_cons (pe_op op_sub (pe_op op_shl pe_int (pe_fld (pv 0) rfl)) pe_int) pa_nil)))
      (pss_cons (ps_expr (pe_call (ok_need T) (hr.mono (by decide)) rfl T.need.gl T.need.kp T.need.bd .nil (passes_call (takes_of rfl rfl rfl rfl) (fun _ _ _ _ h => h)) (pa_cons (pe_cmpR op_eq (pe_op op_and (pv 2) (pv 1)) (pv 2) (nomark _)) pa_nil)))
      (pss_one (ps_ret (pe_tup (pa_cons (pv 1) (pa_cons (pv 2) pa_nil)))))))), ?_⟩)
  · exact spRead_len h
  · obtain ⟨R, na, ns, i, n, rfl, rd, hn, kS, kN⟩ := h
    obtain ⟨dx, hR⟩ := rd.1
    rw [rp_eq] at kN
    refine ⟨_, rfl, R, dx, _, rfl, hR, rd_no, _, rfl, R, T.cReader, dx, _, _, rfl, hR, T.kReader, T.nReader_bits, rd_bits, _, _, rfl, rfl, cpow1 hn, _, _, rfl, rfl, ?_⟩
    refine ⟨R, na, ns, i, n, 2 ^ n - 1, congrArg (fun z => [V.ref R, V.int z]) (shl1m n), rd, fun a ha H1 rd1 k1 => ?_, fun ha H1 k1 => kN (by rw [ha]; rfl) H1 k1⟩
    obtain ⟨dx1, hR1⟩ := rd1.1
    refine ⟨_, rfl, R, dx1, _, rfl, hR1, rd_no, _, rfl, R, T.cReader, dx1, _, _, rfl, hR1, T.kReader, T.nReader_bits, rd_bits, _, _, rfl, rfl, cpow1 hn, _, _, rfl, rfl, ?_⟩
    refine ⟨R, na, ns, i + 1, n, 2 ^ n - 1, congrArg (fun z => [V.ref R, V.int z]) (shl1m n), rd1, fun b hb H2 rd2 k2 => ?_, fun hb H2 k2 => kN (by rw [ha]; show (VapktBase.readNat 0 (2 ^ n - 1) (ns.drop (i + 1))).bind _ = none; rw [hb]; rfl) H2 (k1.trans k2)⟩
    have key : VapktBase.readPattern n (ns.drop i) = if b &&& a = b then some (⟨a, b⟩, ns.drop (i + 1 + 1)) else none := by
      rw [rp_eq, ha]
      show (VapktBase.readNat 0 (2 ^ n - 1) (ns.drop (i + 1))).bind _ = _
      rw [hb]
      rfl
    rw [← rp_eq] at kN
    refine ⟨_, rfl, _, rfl, _, _, rfl, rfl, _, rfl, rfl, _, rfl, fun c => ?_, fun c => ?_⟩
    · have c : Builtin.bitAnd (b : Nat) (a : Nat) = (b : Nat) := V.int.inj (of_decide_eq_true c)
      rw [band] at c
      rw [if_pos (by omega)] at key
      refine ⟨_, rfl, _, rfl, (by show 2 ≤ sizeLine; decide), fun p hp => ?_⟩
      obtain ⟨rd3, k3⟩ := rd2.ne (o := .tup [.int (a : Nat), .int (b : Nat)]) hp
      exact kS _ _ key _ p rd3 ((k1.trans k2).trans k3) upd_same
    · have c : ¬ V.int (Builtin.bitAnd (b : Nat) (a : Nat)) = V.int (b : Nat) := of_decide_eq_false c
      rw [band] at c
      refine kN ?_ _ (k1.trans k2)
      rw [key, if_neg fun e => c (congrArg V.int (by omega))]
theorem ok_Reader_rule (T : Txt K mg) : FnOk P w K mg base (L2.CX P w) 4 T.Reader_rule.f T.Reader_rule.fd ["self"] (spRead K T.cReader T.cNR VapktBase.readRule RuleAt) := by
  refine T.Reader_rule.fn.okX sc_Reader_rule (fun vs H Q E h => ?_) (fun cdv A outer s H vs Q E hr h => ⟨_, (pss_cons (ps_set (i := 1) sc_Reader_rule.nd rfl (Or.inl rfl) (pe_meth0 (pv 0) T.kReader T.Reader_pattern.me (ok_Reader_pattern T) (hr.mono (by decide)) T.Reader_pattern.bd .nil (passes_call (takes_of rfl rfl rfl rfl) (fun _ _ _ _ h => h))))
      (pss_cons (ps_if (pt_cmpR op_eq (pe_meth (pv 0) T.kReader T.Reader_take.me (ok_Reader_take T) (hr.mono (by decide)) T.Reader_take.bd .nil (passes_call (takes_of rfl rfl rfl rfl) (fun _ _ _ _ h => h)) (pa_cons (pgi rfl T.cSEND) pa_nil)) (pgi rfl T.cDROP) (nomark _)) (pss_one (ps_ret (pe_tup (pa_cons (pv 1) (pa_cons (pe_tup (pa_cons (pgi rfl T.cDROP) pa_nil)) pa_nil))))) pss_nil)
      (pss_cons (ps_set (i := 2) sc_Reader_rule.nd rfl (Or.inl rfl) (pe_meth0 (pv 0) T.kReader T.Reader_pattern.me (ok_Reader_pattern T) (hr.mono (by decide)) T.Reader_pattern.bd .nil (passes_call (takes_of rfl rfl rfl rfl) (fun _ _ _ _ h => h))))
      (pss_one (ps_ret (pe_tup (pa_cons (pv 1) (pa_cons (pe_op op_catT (pe_op op_catT (pe_tup (pa_cons (pgi rfl T.cSEND) pa_nil)) (pv 2)) (pe_tup (pa_cons (pe_meth (pv 0) T.kReader T.Reader_take.me (ok_Reader_take T) (hr.mono (by decide)) T.Reader_take.bd .nil (passes_call (takes_of rfl rfl rfl rfl) (fun _ _ _ _ h => h)) (pa_cons (pgi rfl T.cMOST_PORT) pa_nil)) pa_nil))) pa_nil)))))))), ?_⟩)
  · exact spRead_len h
  · obtain ⟨R, na, ns, i, n, rfl, rd, hn, kS, kN⟩ := h
    obtain ⟨dx, hR⟩ := rd.1
    have re := rr_eq n (ns.drop i)
    -- pattern = self.pattern()
    refine ⟨_, rfl, R, dx, _, rfl, hR, rd_no, R, na, ns, i, n, rfl, rd, hn, fun p j hp H1 pa rd1 k1 hpa => ?_, fun hp H1 k1 => kN (by rw [re, hp]; rfl) H1 k1⟩
    rw [hp] at re
    have re : VapktBase.readRule n (ns.drop i) = (VapktBase.readAction n (ns.drop j)).bind fun a => some (⟨p, a.1⟩, a.2) := re
    rw [ra_eq] at re
    obtain ⟨dx1, hR1⟩ := rd1.1
    -- if self.take(SEND) == DROP
    refine ⟨_, rfl, R, dx1, _, rfl, hR1, rd_no, R, na, ns, j, n, 1, rfl, rd1, fun x hx H2 rd2 k2 => ?_, fun hx H2 k2 => kN (by rw [re, hx]; rfl) H2 (k1.trans k2)⟩
    rw [hx] at re
    have hpa2 : PatAt H2 pa p := by
      refine k2 _ _ hpa fun z => ?_
      rw [z] at hpa
      have := hR1.symm.trans hpa
      cases this
    refine ⟨rfl, _, rfl, ?_⟩
    by_cases c : x = 0
    · subst c
      refine ifT (decide_eq_true rfl) ?_
      -- return (pattern, (DROP,))
      refine ⟨_, rfl, (by show 1 ≤ sizeLine; decide), fun q hq => ⟨(by show 2 ≤ sizeLine; decide), fun r hr' => ?_⟩⟩
      obtain ⟨rd3, k3⟩ := rd2.ne (o := .tup [.int 0]) hq
      obtain ⟨rd4, k4⟩ := rd3.ne (o := .tup [.ref pa, .ref q]) hr'
      refine kS _ _ re _ r rd4 (((k1.trans k2).trans k3).trans k4) ⟨pa, q, upd_same, ?_, ?_⟩
      · exact ((snew hq).trans (snew hr')) _ _ hpa2
      · exact snew hr' _ _ upd_same
    · refine ifF (decide_eq_false fun e => c (by have := V.int.inj e; omega)) ?_
      have re : VapktBase.readRule n (ns.drop i) = ((VapktBase.readPattern n (ns.drop (j + 1))).bind fun q => (VapktBase.readNat 0 5 q.2).bind fun z => some (.send ⟨q.1.told, q.1.bits⟩ z.1, z.2)).bind fun a => some (⟨p, a.1⟩, a.2) := by
        rw [re]
        refine congrArg (fun (o : Option (Action × List Int)) => o.bind fun a => some ((⟨p, a.1⟩ : Rule), a.2)) ?_
        exact if_neg c
      obtain ⟨dx2, hR2⟩ := rd2.1
      -- rewrite = self.pattern()
      refine ⟨_, rfl, R, dx2, _, rfl, hR2, rd_no, R, na, ns, j + 1, n, rfl, rd2, hn, fun q j2 hq H3 qa rd3 k3 hqa => ?_, fun hq H3 k3 => kN (by rw [re, hq]; rfl) H3 ((k1.trans k2).trans k3)⟩
      rw [hq] at re
      have re : VapktBase.readRule n (ns.drop i) = ((VapktBase.readNat 0 5 (ns.drop j2)).bind fun z => some (.send ⟨q.told, q.bits⟩ z.1, z.2)).bind fun a => some (⟨p, a.1⟩, a.2) := re
      have hpa3 : PatAt H3 pa p := by
        refine k3 _ _ hpa2 fun z => ?_
        rw [z] at hpa2
        have := hR2.symm.trans hpa2
        cases this
      obtain ⟨dx3, hR3⟩ := rd3.1
      -- return (pattern, (SEND,) + rewrite + (self.take(MOST_PORT),))
      refine ⟨_, rfl, (by show 1 ≤ sizeLine; decide), fun p1 hp1 => ?_⟩
      obtain ⟨rd4, k4⟩ := rd3.ne (o := .tup [.int 1]) hp1
      refine ⟨_, rfl, p1, qa, _, _, rfl, rfl, SqT.of upd_same, SqT.of (snew hp1 _ _ hqa), (by simp), (by show 3 ≤ sizeLine; decide), (fun z => by simp at z), fun _ p2 hp2 => ?_⟩
      obtain ⟨rd5, k5⟩ := rd4.ne (o := .tup [.int 1, .int (q.told : Nat), .int (q.bits : Nat)]) hp2
      obtain ⟨dx5, hR5⟩ := rd5.1
      refine ⟨_, rfl, R, dx5, _, rfl, hR5, rd_no, R, na, ns, j2, n, 5, rfl, rd5, fun z hz H6 rd6 k6 => ?_, fun hz H6 k6 => kN (by rw [re, hz]; rfl) H6 ((((k1.trans k2).trans k3).trans (k4.trans k5)).trans k6)⟩
      rw [hz] at re
      refine ⟨(by show 1 ≤ sizeLine; decide), fun p3 hp3 => ?_⟩
      obtain ⟨rd7, k7⟩ := rd6.ne (o := .tup [.int (z : Nat)]) hp3
      have hp26 : H6 p2 = some (.tup [.int 1, .int (q.told : Nat), .int (q.bits : Nat)]) := by
        refine k6 _ _ upd_same fun e => ?_
        rw [e] at hp2
        have := (RdAt.ne rd3 (o := .tup [.int 1]) hp1).1.1
        obtain ⟨d, hd⟩ := this
        rw [hd] at hp2
        cases hp2
      refine ⟨p2, p3, _, _, rfl, rfl, SqT.of (snew hp3 _ _ hp26), SqT.of upd_same, (by simp), (by show 4 ≤ sizeLine; decide), (fun z => by simp at z), fun _ p4 hp4 => ?_⟩
      obtain ⟨rd8, k8⟩ := rd7.ne (o := .tup [.int 1, .int (q.told : Nat), .int (q.bits : Nat), .int (z : Nat)]) hp4
      refine ⟨(by show 2 ≤ sizeLine; decide), fun p5 hp5 => ?_⟩
      obtain ⟨rd9, k9⟩ := rd8.ne (o := .tup [.ref pa, .ref p4]) hp5
      refine kS _ _ re _ p5 rd9 (((((k1.trans k2).trans k3).trans (k4.trans k5)).trans k6).trans ((k7.trans k8).trans k9)) ⟨pa, p4, upd_same, ?_, ?_⟩
      · have h6 : PatAt H6 pa p := by
          refine k6 _ _ (((snew hp1).trans (snew hp2)) _ _ hpa3) fun e => ?_
          have h3 : H3 pa = some _ := hpa3
          rw [e] at h3
          have := hR3.symm.trans h3
          cases this
        exact (((snew hp3).trans (snew hp4)).trans (snew hp5)) _ _ h6
      · exact snew hp5 _ _ upd_same
end
end Rt

/-! tables, rules, patterns of their numbers -/
namespace Rt
open PySem PySem.Spec PyProof.Rows L2
open VapktBase (Rule Action Table Rewrite)
section
variable {P : Program} {w : World} {K : PySem.W.Frag} {mg : Str → Option Value} {base : Heap}
theorem Same.keep {R : Addr} {H0 H H' : Hp} (s : Same H0 H) (n : H0 R = none) (k : Keep R H H') : Same H0 H' := fun b o e => k _ _ (s _ _ e) fun z => by rw [z, n] at e; cases e
theorem lc_read {α : Type} {C CN R na D : Addr} {m : Str} {f : Nat → List Int → Option (α × List Int)} {At : Hp → Addr → α → Prop} {ns : List Int} {n wd : Nat} {H0 H1 : Hp} {E : XK} {Qd : Hp → Prop} {va vb : Option V} (hAt : OnTups At)
    (hm : ∀ na i n, List.lookup m (rdF na i n) = none) (hn : n ≤ 8) (hw : wd ≤ 7) (hS0 : SqL K H0 na (ns.map V.int)) (rd1 : RdAt K C H1 R na ns 1 wd) (s1 : Same H0 H1) (hR0 : H0 R = none) (hD : H1 D = none)
    (hOk : ∀ xs j, VapktBase.readTimes (f wd) n (ns.drop 1) = some (xs, ns.drop j) → ∀ H', RdAt K C H' R na ns j wd → Same H0 H' → LstAt At H' D xs → Qd H')
    (hNo : VapktBase.readTimes (f wd) n (ns.drop 1) = none → ∀ H', Same H0 H' → E (.ref CN) none H') :
    ∃ W : Nat → Nat → Hp → Prop, (∃ m, W 0 m (upd H1 D (.lst []))) ∧ ∀ i mm H, W i mm H →
      ((Itr 0 n).stop i H ∧ Qd H) ∨ ((Itr 0 n).go i H ∧ ∃ Nx : Hp → Prop, (∀ H', Nx H' → ∃ m', m' < mm ∧ W (i + 1) m' H') ∧ ∀ x H', (Itr 0 n).yld i H x H' → gName 4 x (wipe [va, vb, some (.ref R), none, none] [4]) H' fun σ2 H2 => wipe σ2 [4] = wipe [va, vb, some (.ref R), none, none] [4] ∧ tYes σ2 H2 fun b H3 =>
        if b = true then tMeth C m (spRead K C CN f At) [] E (tVar 2) tNil σ2 H3 fun y H4 => ∃ acc, H4 D = some (.lst acc) ∧ acc.length < sizeLine ∧ Nx (upd H4 D (.lst (acc ++ [y]))) else Nx H3) := by
  refine lc_range (lo := 0) (n := n) (fun i H => ∃ xs j as, VapktBase.readTimes (f wd) i (ns.drop 1) = some (xs, ns.drop j) ∧ RdAt K C H R na ns j wd ∧ H D = some (.lst (as.map V.ref)) ∧ Paired (At H) as xs ∧ Same H0 H) ?_ ?_ ?_
  · obtain ⟨rd2, k2⟩ := rd1.ne (o := .lst []) hD
    exact ⟨[], 1, [], rfl, rd2, upd_same, .nil, s1.trans (snew hD)⟩
  · rintro i H hi ⟨xs, j, as, hr, rd, hl, pr, s⟩
    obtain ⟨dx, hR⟩ := rd.1
    refine ⟨rfl, _, rfl, R, dx, _, rfl, hR, hm _ _ _, R, na, ns, j, wd, rfl, rd, hw, fun x j2 hx H' p rd' k' hp => ?_, fun hx H' k' => ?_⟩
    · have hDR : D ≠ R := fun z => by rw [z, hR] at hl; cases hl
      have hl' : H' D = some (.lst (as.map V.ref)) := k' _ _ hl hDR
      have st := stay_lst (o := .lst (as.map V.ref ++ [.ref p])) hl'
      have pr' : Paired (At (upd H' D (.lst (as.map V.ref ++ [.ref p])))) as xs := paired_tups hAt ((stay_keep hR k').trans st) pr
      have hD0 : H0 D = none := s1.free hD
      have s' : Same H0 (upd H' D (.lst (as.map V.ref ++ [.ref p]))) := fun b o e => by
        rw [upd_ne (ne_of_none e hD0)]
        exact Same.keep s hR0 k' b o e
      obtain ⟨⟨dx', hR'⟩, hS', hj'⟩ := rd'
      have hlen : as.length = i := by rw [Paired.len pr]; exact rt_len _ _ _ _ _ hr
      refine ⟨as.map V.ref, hl', (by rw [List.length_map]; exact Nat.lt_of_le_of_lt (show as.length ≤ 1000 by omega) (by decide)), xs ++ [x], j2, as ++ [p], ?_, ?_, ?_, ?_, s'⟩
      · rw [rt_snoc, hr]
        show (f wd (ns.drop j)).bind _ = _
        rw [hx]
        rfl
      · exact ⟨⟨dx', by rw [upd_ne (Ne.symm hDR)]; exact hR'⟩, s'.seq hS0, hj'⟩
      · rw [upd_same, List.map_append]
        rfl
      · exact Paired.app pr' (.cons (hAt _ _ _ _ st hp) .nil)
    · refine hNo ?_ H' (Same.keep s hR0 k')
      have e : VapktBase.readTimes (f wd) (i + 1) (ns.drop 1) = none := by
        rw [rt_snoc, hr]
        show (f wd (ns.drop j)).bind _ = none
        rw [hx]
        rfl
      have := rt_none _ e (n - (i + 1))
      rwa [show i + 1 + (n - (i + 1)) = n by omega] at this
  · rintro H ⟨xs, j, as, hr, rd, hl, pr, s⟩
    exact hOk xs j hr H rd s ⟨as, hl, pr⟩
theorem numb_ref {H : Hp} {a : Addr} {ns : List Int} {i j : Nat} {z : Int} (h : ns[i]? = some z) (e : j = i) : ns[j]? = some z := e ▸ h
def spOfNums {α : Type} (K : PySem.W.Frag) (CN : Addr) (f : Nat → List Int → Option α) (At : Hp → Addr → α → Prop) : Sp := fun vs H Q E => ∃ (na : Addr) (ns : List Int) (n : Nat), vs = [.ref na, .int (n : Nat)] ∧ SqL K H na (ns.map V.int) ∧ n ≤ 7 ∧
  (∀ x, f n ns = some x → ∀ H' p, Same H H' → At H' p x → Q (.ref p) H') ∧ (f n ns = none → ∀ H', Same H H' → E (.ref CN) none H')
theorem spOfNums_len {α : Type} {K : PySem.W.Frag} {CN : Addr} {f : Nat → List Int → Option α} {At : Hp → Addr → α → Prop} {vs : List V} {H : Hp} {Q : VK} {E : XK} (h : spOfNums K CN f At vs H Q E) : vs.length = 2 := by
  obtain ⟨na, ns, n, rfl, _⟩ := h
  rfl
/-- behind Reader(numbers, bits) -/
theorem made_reader {C : Addr} {H H1 : Hp} {x dx na : Addr} {ns : List Int} {n : Nat} (nx : H x = none) (nd : H dx = none) (k : Keep x (upd (upd H dx (.own x)) x (.ins C dx [])) H1) : Same H H1 :=
  Same.made nx nd k
def spTabOf (K : PySem.W.Frag) (CN : Addr) : Sp := fun vs H Q E => ∃ (na : Addr) (ns : List Int) (n : Nat), vs = [.ref na, .int (n : Nat)] ∧ SqL K H na (ns.map V.int) ∧ n ≤ 7 ∧
  (∀ x, Vapktb.tableOf n ns = some x → ∀ H' p, H p = none → Same H H' → TabAt H' p x → Q (.ref p) H') ∧ (Vapktb.tableOf n ns = none → ∀ H', Same H H' → E (.ref CN) none H')
theorem ok_table_of (T : Txt K mg) : FnOk P w K mg base (L2.CX P w) 5 T.table_of.f T.table_of.fd ["numbers", "bits"] (spTabOf K T.cNR) := by
  refine T.table_of.fn.okX sc_table_of (fun vs H Q E h => ?_) (fun cdv A outer s H vs Q E hr h => ⟨_, (pss_cons (ps_set (i := 2) sc_table_of.nd rfl (Or.inr rfl) (pe_make T.Reader_init.mkk (ok_Reader_init T) (hr.mono (by decide)) rfl T.gReader T.Reader_init.bd .nil pass0 (pa_cons (pv 0) (pa_cons (pv 1) pa_nil))))
      (pss_cons (ps_setLcX (i := 3) (own := [("turn", 4)]) rfl rfl (takes_of rfl rfl rfl rfl) (fun _ _ _ _ h => h) rfl sc_table_of.nd rfl rfl (sw_true rfl rfl rfl (by decide +kernel)) (pi_range1 rfl T.zrange (pa_cons (pe_meth (pv 2) T.kReader T.Reader_take.me (ok_Reader_take T) (hr.mono (by decide)) T.Reader_take.bd .nil (passes_call (takes_of rfl rfl rfl rfl) (fun _ _ _ _ h => h)) (pa_cons (pgi rfl T.cMOST_RULES) pa_nil)) pa_nil)) (blkOk_by (own := [("turn", 4)]) (N := ["numbers", "bits", "reader", "found", "turn"]) (sc := defScope s_table_of) (by decide +kernel)) (fun _ _ _ _ _ => (pg_name (i := 4) sc_table_of.nd rfl (Or.inl rfl))) (fun _ _ _ _ _ => (pe_meth0 (pv 2) T.kReader T.Reader_rule.me (ok_Reader_rule T) (hr.mono (by decide)) T.Reader_rule.bd .nil passB)))
      (pss_cons (ps_expr (pe_meth0 (pv 2) T.kReader T.Reader_look_at_end.me (ok_Reader_look_at_end T) (hr.mono (by decide)) T.Reader_look_at_end.bd .nil (passes_call (takes_of rfl rfl rfl rfl) (fun _ _ _ _ h => h))))
      (pss_one (ps_ret (pv 3)))))), ?_⟩)
  · obtain ⟨na, ns, n, rfl, _⟩ := h
    rfl
  · obtain ⟨na, ns, n, rfl, hS, hn, kS, kN⟩ := h
    -- reader = Reader(numbers, bits)
    refine ⟨_, rfl, _, rfl, fun R dx nR nd ne => ?_⟩
    refine ⟨R, dx, na, ns, n, rfl, upd_same, (snew nd).trans (snew (o := .ins T.cReader dx []) (by rw [upd_ne ne.symm]; exact nR)) |>.seq hS, fun H1 rd1 k1 => ⟨rfl, ?_⟩⟩
    have s1 : Same H H1 := Same.made nR nd k1
    obtain ⟨dx1, hR1⟩ := rd1.1
    -- found = [reader.rule() for turn in range(reader.take(MOST_RULES))]
    refine ⟨_, rfl, R, dx1, _, rfl, hR1, rd_no, R, na, ns, 0, n, 8, rfl, rd1, fun x hx H2 rd2 k2 => ?_, fun hx H2 k2 => kN (by rw [tableOf_eq, show ns = ns.drop 0 from rfl, hx]; rfl) H2 (Same.keep s1 nR k2)⟩
    have s2 : Same H H2 := Same.keep s1 nR k2
    have hx8 : x ≤ 8 := rn_le hx
    refine ⟨_, rfl, by omega, by omega, fun D hD => ?_⟩
    have te : Vapktb.tableOf n ns = (VapktBase.readTimes (VapktBase.readRule n) x (ns.drop 1)).bind fun u => if u.2 = [] then some u.1 else none := by
      rw [tableOf_eq]
      have hx : VapktBase.readNat 0 8 ns = some (x, ns.drop 1) := hx
      rw [hx]
      rfl
    refine lc_read (f := VapktBase.readRule) (n := x) rule_tups (fun _ _ _ => rd_no) hx8 hn hS rd2 s2 nR hD (fun xs j hr H3 rd3 s3 hl => ?_) fun hr H3 s3 => kN (by rw [te, hr]; rfl) H3 s3
    rw [hr] at te
    have te : Vapktb.tableOf n ns = if ns.drop j = [] then some xs else none := te
    obtain ⟨dx3, hR3⟩ := rd3.1
    -- reader.look_at_end(); return found
    refine ⟨_, rfl, R, dx3, _, rfl, hR3, rd_no, R, na, ns, j, n, rfl, rd3, fun c => ?_, fun c => kN (by rw [te, if_neg c]) H3 s3⟩
    rw [if_pos c] at te
    exact ⟨_, rfl, kS xs te H3 D (s2.free hD) s3 hl⟩
theorem ok_rule_of (T : Txt K mg) : FnOk P w K mg base (L2.CX P w) 5 T.rule_of.f T.rule_of.fd ["numbers", "bits"] (spOfNums K T.cNR Vapktb.ruleOf RuleAt) := by
  refine T.rule_of.fn.okX sc_rule_of (fun vs H Q E h => ?_) (fun cdv A outer s H vs Q E hr h => ⟨_, (pss_cons (ps_set (i := 2) sc_rule_of.nd rfl (Or.inl rfl) (pe_make T.Reader_init.mkk (ok_Reader_init T) (hr.mono (by decide)) rfl T.gReader T.Reader_init.bd .nil pass0 (pa_cons (pv 0) (pa_cons (pv 1) pa_nil))))
      (pss_cons (ps_set (i := 3) sc_rule_of.nd rfl (Or.inl rfl) (pe_meth0 (pv 2) T.kReader T.Reader_rule.me (ok_Reader_rule T) (hr.mono (by decide)) T.Reader_rule.bd .nil (passes_call (takes_of rfl rfl rfl rfl) (fun _ _ _ _ h => h))))
      (pss_cons (ps_expr (pe_meth0 (pv 2) T.kReader T.Reader_look_at_end.me (ok_Reader_look_at_end T) (hr.mono (by decide)) T.Reader_look_at_end.bd .nil (passes_call (takes_of rfl rfl rfl rfl) (fun _ _ _ _ h => h))))
      (pss_one (ps_ret (pv 3)))))), ?_⟩)
  · exact spOfNums_len h
  · obtain ⟨na, ns, n, rfl, hS, hn, kS, kN⟩ := h
    refine ⟨_, rfl, _, rfl, fun R dx nR nd ne => ?_⟩
    refine ⟨R, dx, na, ns, n, rfl, upd_same, (snew nd).trans (snew (o := .ins T.cReader dx []) (by rw [upd_ne ne.symm]; exact nR)) |>.seq hS, fun H1 rd1 k1 => ⟨rfl, ?_⟩⟩
    have s1 : Same H H1 := Same.made nR nd k1
    obtain ⟨dx1, hR1⟩ := rd1.1
    refine ⟨_, rfl, R, dx1, _, rfl, hR1, rd_no, R, na, ns, 0, n, rfl, rd1, hn, fun x j hx H2 p rd2 k2 hp => ?_, fun hx H2 k2 => kN (by rw [ruleOf_eq, show ns = ns.drop 0 from rfl, hx]; rfl) H2 (Same.keep s1 nR k2)⟩
    have s2 : Same H H2 := Same.keep s1 nR k2
    have te : Vapktb.ruleOf n ns = if ns.drop j = [] then some x else none := by
      rw [ruleOf_eq]
      have hx : VapktBase.readRule n ns = some (x, ns.drop j) := hx
      rw [hx]
      rfl
    obtain ⟨dx2, hR2⟩ := rd2.1
    refine ⟨_, rfl, R, dx2, _, rfl, hR2, rd_no, R, na, ns, j, n, rfl, rd2, fun c => ?_, fun c => kN (by rw [te, if_neg c]) H2 s2⟩
    rw [if_pos c] at te
    exact ⟨_, rfl, kS x te H2 p s2 hp⟩
theorem ok_patterns_in (T : Txt K mg) : FnOk P w K mg base (L2.CX P w) 4 T.patterns_in.f T.patterns_in.fd ["numbers", "bits"] (spOfNums K T.cNR patsOf PatsAt) := by
  refine T.patterns_in.fn.okX sc_patterns_in (fun vs H Q E h => ?_) (fun cdv A outer s H vs Q E hr h => ⟨_, (pss_cons (ps_set (i := 2) sc_patterns_in.nd rfl (Or.inr rfl) (pe_make T.Reader_init.mkk (ok_Reader_init T) (hr.mono (by decide)) rfl T.gReader T.Reader_init.bd .nil pass0 (pa_cons (pv 0) (pa_cons (pv 1) pa_nil))))
      (pss_cons (ps_setLcX (i := 3) (own := [("turn", 4)]) rfl rfl (takes_of rfl rfl rfl rfl) (fun _ _ _ _ h => h) rfl sc_patterns_in.nd rfl rfl (sw_true rfl rfl rfl (by decide +kernel)) (pi_range1 rfl T.zrange (pa_cons (pe_meth (pv 2) T.kReader T.Reader_take.me (ok_Reader_take T) (hr.mono (by decide)) T.Reader_take.bd .nil (passes_call (takes_of rfl rfl rfl rfl) (fun _ _ _ _ h => h)) (pa_cons (pgi rfl T.cMOST_RULES) pa_nil)) pa_nil)) (blkOk_by (own := [("turn", 4)]) (N := ["numbers", "bits", "reader", "found", "turn"]) (sc := defScope s_patterns_in) (by decide +kernel)) (fun _ _ _ _ _ => (pg_name (i := 4) sc_patterns_in.nd rfl (Or.inl rfl))) (fun _ _ _ _ _ => (pe_meth0 (pv 2) T.kReader T.Reader_pattern.me (ok_Reader_pattern T) (hr.mono (by decide)) T.Reader_pattern.bd .nil passB)))
      (pss_cons (ps_expr (pe_meth0 (pv 2) T.kReader T.Reader_look_at_end.me (ok_Reader_look_at_end T) (hr.mono (by decide)) T.Reader_look_at_end.bd .nil (passes_call (takes_of rfl rfl rfl rfl) (fun _ _ _ _ h => h))))
      (pss_one (ps_ret (pv 3)))))), ?_⟩)
  · exact spOfNums_len h
  · obtain ⟨na, ns, n, rfl, hS, hn, kS, kN⟩ := h
    refine ⟨_, rfl, _, rfl, fun R dx nR nd ne => ?_⟩
    refine ⟨R, dx, na, ns, n, rfl, upd_same, (snew nd).trans (snew (o := .ins T.cReader dx []) (by rw [upd_ne ne.symm]; exact nR)) |>.seq hS, fun H1 rd1 k1 => ⟨rfl, ?_⟩⟩
    have s1 : Same H H1 := Same.made nR nd k1
    obtain ⟨dx1, hR1⟩ := rd1.1
    refine ⟨_, rfl, R, dx1, _, rfl, hR1, rd_no, R, na, ns, 0, n, 8, rfl, rd1, fun x hx H2 rd2 k2 => ?_, fun hx H2 k2 => kN (by unfold patsOf; rw [show ns = ns.drop 0 from rfl, hx]; rfl) H2 (Same.keep s1 nR k2)⟩
    have s2 : Same H H2 := Same.keep s1 nR k2
    have hx8 : x ≤ 8 := rn_le hx
    refine ⟨_, rfl, by omega, by omega, fun D hD => ?_⟩
    have te : patsOf n ns = (VapktBase.readTimes (VapktBase.readPattern n) x (ns.drop 1)).bind fun u => if u.2 = [] then some u.1 else none := by
      unfold patsOf
      have hx : VapktBase.readNat 0 8 ns = some (x, ns.drop 1) := hx
      rw [hx]
      rfl
    refine lc_read (f := VapktBase.readPattern) (n := x) pat_tups (fun _ _ _ => rd_no) hx8 hn hS rd2 s2 nR hD (fun xs j hr H3 rd3 s3 hl => ?_) fun hr H3 s3 => kN (by rw [te, hr]; rfl) H3 s3
    rw [hr] at te
    have te : patsOf n ns = if ns.drop j = [] then some xs else none := te
    obtain ⟨dx3, hR3⟩ := rd3.1
    refine ⟨_, rfl, R, dx3, _, rfl, hR3, rd_no, R, na, ns, j, n, rfl, rd3, fun c => ?_, fun c => kN (by rw [te, if_neg c]) H3 s3⟩
    rw [if_pos c] at te
    exact ⟨_, rfl, kS xs te H3 D s3 hl⟩
end
end Rt

/-! == of what lies in the heap; bits; the rule that counts -/
namespace Rt
open PySem PySem.Spec PyProof.Rows L2
open VapktBase (Rule Action Table Rewrite)
/-! ### data -/
def Fl (d : PyData) (k : Nat) : Prop := d.canLay0 = true ∧ d.depth ≤ k
theorem fl_all {α : Type} {f : α → PyData} {k : Nat} (h : ∀ x, Fl (f x) k) : ∀ l : List α, PyData.canLayAll0 (l.map f) = true ∧ PyData.depthAll (l.map f) ≤ k
  | [] => ⟨by simp [PyData.canLayAll0], by simp [PyData.depthAll]⟩
  | x :: l => by
    obtain ⟨a, b⟩ := h x
    obtain ⟨c, d⟩ := fl_all h l
    refine ⟨?_, ?_⟩
    · simp only [List.map_cons, PyData.canLayAll0, a, c, Bool.and_self]
    · simp only [List.map_cons, PyData.depthAll]
      omega
theorem fl_list {α : Type} {f : α → PyData} {k : Nat} (h : ∀ x, Fl (f x) k) (l : List α) : Fl (.list (l.map f)) (k + 1) := by
  obtain ⟨a, b⟩ := fl_all h l
  exact ⟨by simpa only [PyData.canLay0] using a, by simp only [PyData.depth]; omega⟩
theorem fl_tuple {α : Type} {f : α → PyData} {k : Nat} (h : ∀ x, Fl (f x) k) (l : List α) : Fl (.tuple (l.map f)) (k + 1) := by
  obtain ⟨a, b⟩ := fl_all h l
  exact ⟨by simpa only [PyData.canLay0] using a, by simp only [PyData.depth]; omega⟩
theorem fl_int (i : Int) : Fl (.int i) 0 := ⟨by simp only [PyData.canLay0], by simp only [PyData.depth]; omega⟩
theorem Fl.shaped {d : PyData} {k : Nat} (h : Fl d k) (hk : k ≤ 64) : SeqAt.shaped d = true := by
  unfold SeqAt.shaped
  rw [h.1, decide_eq_true (Nat.le_trans h.2 hk)]
  rfl
theorem eqv_all {α : Type} [DecidableEq α] {f : α → PyData} (h : ∀ x y, PyData.eqv (f x) (f y) = decide (x = y)) : ∀ l l' : List α, PyData.eqvAll (l.map f) (l'.map f) = decide (l = l')
  | [], [] => by simp [PyData.eqvAll]
  | [], _ :: _ => by simp [PyData.eqvAll]
  | _ :: _, [] => by simp [PyData.eqvAll]
  | x :: l, y :: l' => by
    simp only [List.map_cons, PyData.eqvAll, h x y, eqv_all h l l']
    by_cases e : x = y
    · subst e
      by_cases e2 : l = l'
      · subst e2; simp
      · simp [e2]
    · simp [e]
theorem eqv_list {α : Type} [DecidableEq α] {f : α → PyData} (h : ∀ x y, PyData.eqv (f x) (f y) = decide (x = y)) (l l' : List α) : PyData.eqv (.list (l.map f)) (.list (l'.map f)) = decide (l = l') := by
  simp only [PyData.eqv]
  exact eqv_all h l l'
theorem eqv_tuple {α : Type} [DecidableEq α] {f : α → PyData} (h : ∀ x y, PyData.eqv (f x) (f y) = decide (x = y)) (l l' : List α) : PyData.eqv (.tuple (l.map f)) (.tuple (l'.map f)) = decide (l = l') := by
  simp only [PyData.eqv]
  exact eqv_all h l l'
theorem eqv_int (i j : Int) : PyData.eqv (.int i) (.int j) = decide (i = j) := by
  simp only [PyData.eqv]
  exact Bool.beq_eq_decide_eq i j
theorem dp_ints {K : PySem.W.Frag} {H : Hp} : ∀ ns : List Int, DpAll K H (ns.map V.int) (ns.map PyData.int)
  | [] => .nil
  | n :: r => .cons (.int n) (dp_ints r)
theorem dp_intlist {K : PySem.W.Frag} {H : Hp} {a : Addr} {ns : List Int} (h : SqL K H a (ns.map V.int)) : Dp K H (.ref a) (.list (ns.map PyData.int)) := .lst h (dp_ints ns)
theorem dp_inttup {K : PySem.W.Frag} {H : Hp} {a : Addr} {ns : List Int} (h : SqT K H a (ns.map V.int)) : Dp K H (.ref a) (.tuple (ns.map PyData.int)) := .tup h (dp_ints ns)
theorem sh_ints (ns : List Int) : SeqAt.shaped (.list (ns.map PyData.int)) = true := (fl_list (fun i => fl_int i) ns).shaped (by decide)
theorem eqv_ints (ns ms : List Int) : PyData.eqv (.list (ns.map PyData.int)) (.list (ms.map PyData.int)) = decide (ns = ms) := eqv_list eqv_int ns ms
/-- outcomes -/
def outI : Vapktb.Outcome → List Int
  | .hole => [0]
  | .dropped => [1]
  | .sent p h => [2, (p : Nat), (h : Nat)]
theorem outV_eq (o : Vapktb.Outcome) : outV o = (outI o).map V.int := by cases o <;> rfl
theorem outI_inj {o o' : Vapktb.Outcome} (h : outI o = outI o') : o = o' := by
  cases o <;> cases o' <;> simp [outI] at h <;> first | rfl | (obtain ⟨h1, h2⟩ := h; rw [show _ = _ from Int.ofNat.inj h1, show _ = _ from Int.ofNat.inj h2])
def outD (o : Vapktb.Outcome) : PyData := .tuple ((outI o).map PyData.int)
theorem eqv_out (o o' : Vapktb.Outcome) : PyData.eqv (outD o) (outD o') = decide (o = o') := by
  unfold outD
  rw [eqv_tuple eqv_int]
  by_cases e : o = o'
  · subst e; simp
  · rw [decide_eq_false e, decide_eq_false fun z => e (outI_inj z)]
theorem sh_outs (l : List Vapktb.Outcome) : SeqAt.shaped (.list (l.map outD)) = true := (fl_list (f := outD) (fun o => fl_tuple (fun i => fl_int i) (outI o)) l).shaped (by decide)
theorem sh_out (o : Vapktb.Outcome) : SeqAt.shaped (outD o) = true := (fl_tuple (fun i => fl_int i) (outI o)).shaped (by decide)
theorem eqv_outs (l l' : List Vapktb.Outcome) : PyData.eqv (.list (l.map outD)) (.list (l'.map outD)) = decide (l = l') := eqv_list eqv_out l l'
theorem dp_out {K : PySem.W.Frag} {H : Hp} {a : Addr} {o : Vapktb.Outcome} (h : OutAt H a o) : Dp K H (.ref a) (outD o) := dp_inttup (SqT.of (by rw [← outV_eq]; exact h))
theorem dp_all {α : Type} {K : PySem.W.Frag} {H : Hp} {At : Hp → Addr → α → Prop} {f : α → PyData} (h : ∀ a x, At H a x → Dp K H (.ref a) (f x)) : ∀ {as : List Addr} {xs : List α}, Paired (At H) as xs → DpAll K H (as.map V.ref) (xs.map f)
  | _, _, .nil => .nil
  | _, _, .cons r t => .cons (h _ _ r) (dp_all h t)
theorem dp_outs {K : PySem.W.Frag} {H : Hp} {a : Addr} {l : List Vapktb.Outcome} (h : LstAt OutAt H a l) : Dp K H (.ref a) (.list (l.map outD)) :=
  let ⟨as, h1, h2⟩ := h; .lst (SqL.of h1) (dp_all (fun _ _ q => dp_out q) h2)
/-- actions -/
def actI : Action → List Int
  | .drop => [0]
  | .send r p => [1, (r.mask : Nat), (r.bits : Nat), (p : Nat)]
theorem actV_eq (o : Action) : actV o = (actI o).map V.int := by cases o <;> rfl
theorem actI_inj {o o' : Action} (h : actI o = actI o') : o = o' := by
  cases o with
  | drop => cases o' with
    | drop => rfl
    | send r p => simp [actI] at h
  | send r p => cases o' with
    | drop => simp [actI] at h
    | send r' p' =>
      obtain ⟨a, b⟩ := r
      obtain ⟨c, d⟩ := r'
      simp [actI] at h
      obtain ⟨h1, h2, h3⟩ := h
      have h1 : a = c := by omega
      have h2 : b = d := by omega
      have h3 : p = p' := by omega
      subst h1 h2 h3
      rfl
theorem eqv_act (o o' : Action) : PyData.eqv (.tuple ((actI o).map PyData.int)) (.tuple ((actI o').map PyData.int)) = decide (o = o') := by
  rw [eqv_tuple eqv_int]
  by_cases e : o = o'
  · subst e; simp
  · rw [decide_eq_false e, decide_eq_false fun z => e (actI_inj z)]
theorem sh_act (o : Action) : SeqAt.shaped (.tuple ((actI o).map PyData.int)) = true := (fl_tuple (fun i => fl_int i) (actI o)).shaped (by decide)
theorem dp_act {K : PySem.W.Frag} {H : Hp} {a : Addr} {o : Action} (h : ActAt H a o) : Dp K H (.ref a) (.tuple ((actI o).map PyData.int)) := dp_inttup (SqT.of (by rw [← actV_eq]; exact h))

/-! ### bits -/
theorem and_add_xor : ∀ h m : Nat, (h &&& m) + (h ^^^ (h &&& m)) = h := by
  intro h
  induction h using Nat.strongRecOn with
  | _ h ih =>
    intro m
    by_cases h0 : h = 0
    · subst h0; simp
    · have i := ih (h / 2) (by omega) (m / 2)
      have a1 : (h &&& m) / 2 = h / 2 &&& m / 2 := Nat.and_div_two
      have a2 : (h ^^^ (h &&& m)) / 2 = h / 2 ^^^ (h / 2 &&& m / 2) := by rw [Nat.xor_div_two, a1]
      have a3 : (h &&& m) % 2 + (h ^^^ (h &&& m)) % 2 = h % 2 := by
        rw [show (h ^^^ (h &&& m)) % 2 = (h % 2) ^^^ ((h &&& m) % 2) from Nat.xor_mod_two_pow (n := 1)]
        have k : (h &&& m) % 2 = h % 2 ∧ m % 2 = 1 ∨ (h &&& m) % 2 = 0 := by
          have : (h &&& m) % 2 = (h % 2) &&& (m % 2) := Nat.and_mod_two_pow (n := 1)
          rcases Nat.mod_two_eq_zero_or_one h with e1 | e1 <;> rcases Nat.mod_two_eq_zero_or_one m with e2 | e2 <;> rw [this, e1, e2] <;> simp
        rcases k with ⟨k, _⟩ | k <;> rw [k] <;> simp
      omega
theorem band_not (h m : Nat) : Builtin.bitAnd (h : Int) (Builtin.bitNot (m : Int)) = ((h ^^^ (h &&& m) : Nat) : Int) := by
  have e := and_add_xor h m
  have hn : ¬ (0 ≤ Builtin.bitNot (m : Int)) := by unfold Builtin.bitNot; omega
  have hp : (0 : Int) ≤ (h : Int) := by omega
  have hb : Builtin.bitNot (Builtin.bitNot (m : Int)) = (m : Int) := by unfold Builtin.bitNot; omega
  unfold Builtin.bitAnd
  rw [decide_eq_true hp, decide_eq_false hn]
  show (h : Int) - (((h : Int).toNat &&& (Builtin.bitNot (Builtin.bitNot (m : Int))).toNat : Nat) : Int) = _
  rw [hb, Int.toNat_natCast, Int.toNat_natCast]
  omega

/-! ### the rule that counts -/
def cnt (t : Table) (h : Nat) : Nat := (VapktBase.ruleFor t h).getD t.length
theorem cnt_some {t : Table} {h i : Nat} {r : Rule} (e : t[i]? = some r) (m : VapktBase.matchesIt r.pattern h = true) (b : ∀ j, j < i → ∀ q, t[j]? = some q → VapktBase.matchesIt q.pattern h = false) : VapktBase.ruleFor t h = some i := by
  unfold VapktBase.ruleFor
  rw [List.findIdx?_eq_some_iff_getElem]
  obtain ⟨hi, hr⟩ := List.getElem?_eq_some_iff.mp e
  refine ⟨hi, by rw [hr]; exact m, fun j hj => ?_⟩
  rw [b j hj _ (List.getElem?_eq_getElem (by omega))]
  exact Bool.false_ne_true
theorem cnt_none {t : Table} {h : Nat} (b : ∀ j, j < t.length → ∀ q, t[j]? = some q → VapktBase.matchesIt q.pattern h = false) : VapktBase.ruleFor t h = none := by
  unfold VapktBase.ruleFor
  rw [List.findIdx?_eq_none_iff]
  intro x hx
  obtain ⟨j, hj, e⟩ := List.getElem_of_mem hx
  exact b j hj x (by rw [List.getElem?_eq_getElem hj, e])
theorem cnt_lt {t : Table} {h i : Nat} (e : VapktBase.ruleFor t h = some i) : i < t.length := by
  unfold VapktBase.ruleFor at e
  rw [List.findIdx?_eq_some_iff_getElem] at e
  exact e.1
theorem cnt_le (t : Table) (h : Nat) : cnt t h ≤ t.length := by
  unfold cnt
  cases e : VapktBase.ruleFor t h with
  | none => exact Nat.le_refl _
  | some i => exact Nat.le_of_lt (cnt_lt e)
theorem out_hole {t : Table} {h : Nat} (e : cnt t h = t.length) : Vapktb.outcome t h = .hole := by
  unfold cnt at e
  cases q : VapktBase.ruleFor t h with
  | none => unfold Vapktb.outcome; rw [q]
  | some i =>
    rw [q] at e
    have := cnt_lt q
    have e : i = t.length := e
    omega
theorem out_at {t : Table} {h : Nat} (e : cnt t h ≠ t.length) : ∃ r, t[cnt t h]? = some r ∧ Vapktb.outcome t h = Vapktb.outcomeBy r.action h ∧ VapktBase.ruleFor t h = some (cnt t h) := by
  unfold cnt at e ⊢
  cases q : VapktBase.ruleFor t h with
  | none => rw [q] at e; exact absurd rfl e
  | some i =>
    have hi := cnt_lt q
    refine ⟨t[i], List.getElem?_eq_getElem hi, ?_, rfl⟩
    unfold Vapktb.outcome VapktBase.actionAt
    rw [q]
    show Vapktb.outcomeBy (((t[i]?).map fun r => r.action).getD .drop) h = _
    rw [List.getElem?_eq_getElem hi]
    rfl
end Rt

/-! lists that a loop grows; enumerate -/
namespace Rt
open PySem PySem.Spec PyProof.Rows L2
open VapktBase (Rule Action Table Rewrite)
/-- a list of objects at D, made since H0 -/
structure Grown {α : Type} (At : Hp → Addr → α → Prop) (H0 H : Hp) (D : Addr) (xs : List α) : Prop where
  lst : LstAt At H D xs
  same : Same H0 H
  new : H0 D = none
theorem Grown.start {α : Type} {At : Hp → Addr → α → Prop} {H0 H1 : Hp} {D : Addr} (s : Same H0 H1) (n : H1 D = none) : Grown At H0 (upd H1 D (.lst [])) D [] := ⟨⟨[], upd_same, .nil⟩, s.trans (snew n), s.free n⟩
theorem Grown.more {α : Type} {At : Hp → Addr → α → Prop} {H0 H H' : Hp} {D p : Addr} {xs : List α} {x : α} (g : Grown At H0 H D xs) (t : OnTups At) (s : Same H H') (hp : At H' p x) :
    ∃ l : List V, H' D = some (.lst l) ∧ l.length = xs.length ∧ Grown At H0 (upd H' D (.lst (l ++ [.ref p]))) D (xs ++ [x]) := by
  obtain ⟨⟨as, h1, h2⟩, s0, n⟩ := g
  have h1' := s _ _ h1
  have st := stay_lst (o := .lst (as.map V.ref ++ [.ref p])) h1'
  refine ⟨as.map V.ref, h1', by rw [List.length_map, Paired.len h2], ⟨as ++ [p], by rw [upd_same, List.map_append]; rfl, ?_⟩, fun b o e => ?_, n⟩
  · exact Paired.app (paired_tups t ((stay_same s).trans st) h2) (.cons (t _ _ _ _ st hp) .nil)
  · rw [upd_ne (ne_of_none e n)]
    exact s _ _ (s0 _ _ e)
theorem Grown.on {α : Type} {At : Hp → Addr → α → Prop} {H0 H H' : Hp} {D : Addr} {xs : List α} (g : Grown At H0 H D xs) (t : OnTups At) (s : Same H H') : Grown At H0 H' D xs :=
  ⟨LstAt.imp (fun a x q => t _ _ a x (stay_same s) q) (fun o e => s _ _ e) g.lst, g.same.trans s, g.new⟩
/-- whole numbers -/
structure GrownI (H0 H : Hp) (D : Addr) (ns : List Int) : Prop where
  lst : H D = some (.lst (ns.map V.int))
  same : Same H0 H
  new : H0 D = none
theorem GrownI.start {H0 H1 : Hp} {D : Addr} (s : Same H0 H1) (n : H1 D = none) : GrownI H0 (upd H1 D (.lst [])) D [] := ⟨upd_same, s.trans (snew n), s.free n⟩
theorem GrownI.put {H0 H H' : Hp} {D : Addr} {ns : List Int} (g : GrownI H0 H D ns) (s : Same H H') (ms : List Int) : GrownI H0 (upd H' D (.lst (ns.map V.int ++ ms.map V.int))) D (ns ++ ms) := by
  obtain ⟨h1, s0, n⟩ := g
  refine ⟨by rw [upd_same, List.map_append], fun b o e => ?_, n⟩
  rw [upd_ne (ne_of_none e n)]
  exact s _ _ (s0 _ _ e)
theorem GrownI.more {H0 H H' : Hp} {D : Addr} {ns : List Int} {z : Int} (g : GrownI H0 H D ns) (s : Same H H') :
    ∃ l : List V, H' D = some (.lst l) ∧ l.length = ns.length ∧ GrownI H0 (upd H' D (.lst (l ++ [.int z]))) D (ns ++ [z]) :=
  ⟨ns.map V.int, s _ _ g.lst, List.length_map _, g.put s [z]⟩
theorem GrownI.on {H0 H H' : Hp} {D : Addr} {xs : List Int} (g : GrownI H0 H D xs) (s : Same H H') : GrownI H0 H' D xs := ⟨s _ _ g.lst, g.same.trans s, g.new⟩
/-- a list's items as natural numbers -/
def natI (l : List Nat) : List Int := l.map fun k : Nat => (k : Int)
def natV (l : List Nat) : List V := (natI l).map V.int
theorem natI_inj {l l' : List Nat} (h : natI l = natI l') : l = l' := by
  have := congrArg (List.map Int.toNat) h
  unfold natI at this
  rw [List.map_map, List.map_map] at this
  have e : (Int.toNat ∘ fun k : Nat => (k : Int)) = id := by funext k; simp
  rwa [e, List.map_id, List.map_id] at this
theorem natI_eq (l l' : List Nat) : decide (natI l = natI l') = decide (l = l') := by
  by_cases e : l = l'
  · subst e; simp
  · rw [decide_eq_false e, decide_eq_false fun z => e (natI_inj z)]
theorem natV_len (l : List Nat) : (natV l).length = l.length := by unfold natV natI; rw [List.length_map, List.length_map]
theorem natV_at {l : List Nat} {i : Nat} {x : V} (h : (natV l)[i]? = some x) : ∃ k, l[i]? = some k ∧ x = .int (k : Nat) := by
  unfold natV natI at h
  rw [List.map_map, List.getElem?_map] at h
  cases e : l[i]? with
  | none => rw [e] at h; cases h
  | some k => rw [e] at h; exact ⟨k, rfl, (Option.some.inj h).symm⟩
theorem natI_app (l l' : List Nat) : natI (l ++ l') = natI l ++ natI l' := by unfold natI; rw [List.map_append]
/-- enumerate, over a list that the body leaves as it is -/
theorem for_enum {K : PySem.W.Frag} {a : Addr} {xs : List V} {g : TG} {tb : TS} {D : Ends} {σ : L2.St} {H : Hp} (Pv : Nat → L2.St → Hp → Prop) (h0 : Pv 0 σ H) (hq : ∀ i σ H, Pv i σ H → SqL K H a xs)
    (hs : ∀ (i : Nat) (x : V) (T : Addr) (σ : L2.St) (H : Hp), xs[i]? = some x → Pv i σ H → H T = none → g (.ref T) σ (upd H T (.tup [.int (i : Nat), x])) fun σ2 H2 => tb { D with nx := Pv (i + 1), ct := Pv (i + 1), bk := D.nx } σ2 H2) (hd : ∀ σ H, Pv xs.length σ H → D.nx σ H) :
    ∃ W : Nat → Nat → L2.St → Hp → Prop, (∃ m, W 0 m σ H) ∧ ∀ i m σ H, W i m σ H →
      ((Ite K a).stop i H ∧ D.nx σ H) ∨ ((Ite K a).go i H ∧ ∃ N : L2.St → Hp → Prop, (∀ σ' H', N σ' H' → ∃ m', m' < m ∧ W (i + 1) m' σ' H') ∧ ∀ v H', (Ite K a).yld i H v H' → g v σ H' fun σ2 H2 => tb { D with nx := N, ct := N, bk := D.nx } σ2 H2) := by
  refine ⟨fun i m σ H => m = xs.length - i ∧ i ≤ xs.length ∧ Pv i σ H, ⟨xs.length, rfl, Nat.zero_le _, h0⟩, ?_⟩
  rintro i m σ H ⟨rfl, hi, p⟩
  have qx := hq i σ H p
  by_cases hlt : i < xs.length
  · refine .inr ⟨⟨xs, _, qx, List.getElem?_eq_getElem hlt⟩, Pv (i + 1), fun σ' H' p' => ⟨xs.length - (i + 1), by omega, rfl, hlt, p'⟩, fun v H' y => ?_⟩
    obtain ⟨T, x', rfl, hT, rfl, f1⟩ := y
    exact hs i x' T σ H (f1 xs qx) p hT
  · have e : i = xs.length := by omega
    subst e
    exact .inl ⟨⟨xs, qx, Nat.le_refl _⟩, hd σ H p⟩
theorem refs_at {as : List Addr} {i : Nat} {a : Addr} (h : as[i]? = some a) : (as.map V.ref)[i]? = some (.ref a) := by rw [List.getElem?_map, h]; rfl
theorem refs_of_at {as : List Addr} {i : Nat} {x : V} (h : (as.map V.ref)[i]? = some x) : ∃ a, as[i]? = some a ∧ x = .ref a := by
  rw [List.getElem?_map] at h
  cases e : as[i]? with
  | none => rw [e] at h; cases h
  | some a => rw [e] at h; exact ⟨a, rfl, (Option.some.inj h).symm⟩
theorem size1000 {n : Nat} (h : n ≤ 100000) : n < sizeLine := Nat.lt_of_le_of_lt h (by decide)
theorem size1000' {n : Nat} (h : n ≤ 100000) : n ≤ sizeLine := Nat.le_of_lt (size1000 h)
theorem take_one {α : Type} {l : List α} {i : Nat} {x : α} (h : l[i]? = some x) : l.take (i + 1) = l.take i ++ [x] := by
  rw [List.take_succ, h]
  rfl
end Rt

/-! Plain laws, part 3: two tables the same; rules made one; the first step to a smaller table -/
namespace Rt
open VapktBase (Rule Action Table Rewrite)
/-- all headers' outcomes -/
def outs (n : Nat) (t : Table) : List Vapktb.Outcome := (List.range (2 ^ n)).map (Vapktb.outcome t)
theorem same_eq (n : Nat) (t u : Table) : decide (outs n u = outs n t) = Vapktb.sameTables n t u := by
  unfold Vapktb.sameTables outs VapktBase.headers
  rw [Bool.eq_iff_iff, decide_eq_true_iff, List.all_eq_true]
  constructor
  · intro h x hx
    have := (List.map_inj_left.mp h) x hx
    rw [this]
    exact beq_self_eq_true _
  · intro h
    refine List.map_congr_left fun x hx => ?_
    exact (eq_of_beq (h x hx)).symm
/-! ### two rules made one -/
def uniteP (p q : VapktBase.Pattern) : VapktBase.Pattern := ⟨p.told - (p.bits ^^^ q.bits), p.bits ^^^ (p.bits &&& (p.bits ^^^ q.bits))⟩
theorem and_xor_sub {x t : Nat} (h : x &&& t = x) : t ^^^ x = t - x := by
  have : ∀ m : Nat, (t &&& m) + (t ^^^ (t &&& m)) = t := by
    intro m
    have key : ∀ a : Nat, ∀ m : Nat, (a &&& m) + (a ^^^ (a &&& m)) = a := by
      intro a
      induction a using Nat.strongRecOn with
      | _ h ih =>
        intro m
        by_cases h0 : h = 0
        · subst h0; simp
        · have i := ih (h / 2) (by omega) (m / 2)
          have a1 : (h &&& m) / 2 = h / 2 &&& m / 2 := Nat.and_div_two
          have a2 : (h ^^^ (h &&& m)) / 2 = h / 2 ^^^ (h / 2 &&& m / 2) := by rw [Nat.xor_div_two, a1]
          have a3 : (h &&& m) % 2 + (h ^^^ (h &&& m)) % 2 = h % 2 := by
            rw [show (h ^^^ (h &&& m)) % 2 = (h % 2) ^^^ ((h &&& m) % 2) from Nat.xor_mod_two_pow (n := 1)]
            have k : (h &&& m) % 2 = h % 2 ∧ m % 2 = 1 ∨ (h &&& m) % 2 = 0 := by
              have : (h &&& m) % 2 = (h % 2) &&& (m % 2) := Nat.and_mod_two_pow (n := 1)
              rcases Nat.mod_two_eq_zero_or_one h with e1 | e1 <;> rcases Nat.mod_two_eq_zero_or_one m with e2 | e2 <;> rw [this, e1, e2] <;> simp
            rcases k with ⟨k, _⟩ | k <;> rw [k] <;> simp
          omega
    exact key t m
  have e := this x
  rw [Nat.and_comm, h] at e
  omega
theorem xor_under {a b t : Nat} (ha : a &&& t = a) (hb : b &&& t = b) : (a ^^^ b) &&& t = a ^^^ b := by
  refine Nat.eq_of_testBit_eq fun k => ?_
  have h1 := congrArg (Nat.testBit · k) ha
  have h2 := congrArg (Nat.testBit · k) hb
  simp only [Nat.testBit_and, Nat.testBit_xor] at h1 h2 ⊢
  cases h3 : a.testBit k <;> cases h4 : b.testBit k <;> cases h5 : t.testBit k <;> simp_all
theorem and_as_xor (a b : Nat) : a ^^^ (a &&& (a ^^^ b)) = a &&& b := by
  refine Nat.eq_of_testBit_eq fun k => ?_
  simp only [Nat.testBit_and, Nat.testBit_xor]
  cases a.testBit k <;> cases b.testBit k <;> rfl
theorem united_eq {w : Nat} {p q : VapktBase.Pattern} (hp : WFP w p) (hq : WFP w q) : Vapktb.united p q = if p.told = q.told ∧ Vapktb.isOneBit (p.bits ^^^ q.bits) = true then some (uniteP p q) else none := by
  unfold Vapktb.united
  show (if p.told = q.told ∧ Vapktb.isOneBit (p.bits ^^^ q.bits) = true then _ else _) = _
  by_cases c : p.told = q.told ∧ Vapktb.isOneBit (p.bits ^^^ q.bits) = true
  · rw [if_pos c, if_pos c]
    have e1 : p.told ^^^ (p.bits ^^^ q.bits) = p.told - (p.bits ^^^ q.bits) := and_xor_sub (xor_under hp.2.2 (c.1 ▸ hq.2.2))
    show some (⟨p.told ^^^ (p.bits ^^^ q.bits), p.bits &&& q.bits⟩ : VapktBase.Pattern) = _
    rw [e1, ← and_as_xor]
    rfl
  · rw [if_neg c, if_neg c]
theorem set_erase {α : Type} {t : List α} {i j : Nat} {x : α} (hij : i < j) (hj : j < t.length) : (t.set i x).eraseIdx j = t.take i ++ ([x] ++ (t.eraseIdx j).drop (i + 1)) := by
  refine List.ext_getElem? fun k => ?_
  rw [List.getElem?_eraseIdx, List.getElem?_append, List.length_take, Nat.min_eq_left (by omega)]
  by_cases c1 : k < i
  · rw [if_pos (by omega), if_pos c1, List.getElem?_set_ne (by omega), List.getElem?_take_of_lt c1]
  · rw [if_neg c1]
    by_cases c2 : k = i
    · subst c2
      rw [if_pos hij, List.getElem?_set_self (by omega), Nat.sub_self]
      rfl
    · rw [List.getElem?_append_right (by simp; omega), List.getElem?_drop, List.getElem?_eraseIdx]
      rw [show i + 1 + (k - i - [x].length) = k by simp; omega, List.getElem?_set_ne (by omega), List.getElem?_set_ne (by omega)]
theorem joined_eq {w : Nat} {t : Table} {i j : Nat} {a b : Rule} (wf : WFT w t) (hij : i < j) (hj : j < t.length) (ha : t[i]? = some a) (hb : t[j]? = some b) :
    Vapktb.joined t i j = if a.action = b.action ∧ a.pattern.told = b.pattern.told ∧ Vapktb.isOneBit (a.pattern.bits ^^^ b.pattern.bits) = true then
      some (t.take i ++ ([⟨uniteP a.pattern b.pattern, a.action⟩] ++ (t.eraseIdx j).drop (i + 1))) else none := by
  have wa := wf.2 a (List.mem_of_getElem? ha)
  have wb := wf.2 b (List.mem_of_getElem? hb)
  unfold Vapktb.joined
  rw [ha, hb]
  show (if a.action = b.action then _ else _) = _
  rw [united_eq wa.1 wb.1]
  by_cases c1 : a.action = b.action
  · rw [if_pos c1]
    by_cases c2 : a.pattern.told = b.pattern.told ∧ Vapktb.isOneBit (a.pattern.bits ^^^ b.pattern.bits) = true
    · rw [if_pos c2, if_pos ⟨c1, c2⟩]
      exact congrArg some (set_erase hij hj)
    · rw [if_neg c2, if_neg fun z => c2 z.2]
      rfl
  · rw [if_neg c1, if_neg fun z => c1 z.1]
theorem joined_wf {w : Nat} {t u : Table} {i j : Nat} (wf : WFT w t) (hij : i < j) (hj : j < t.length) (h : Vapktb.joined t i j = some u) : WFT w u ∧ u.length + 1 = t.length := by
  have ha := List.getElem?_eq_getElem (show i < t.length by omega)
  have hb := List.getElem?_eq_getElem hj
  have wa := wf.2 _ (List.mem_of_getElem? ha)
  have wb := wf.2 _ (List.mem_of_getElem? hb)
  rw [joined_eq wf hij hj ha hb] at h
  generalize t[i] = a at h wa
  generalize t[j] = b at h wb
  by_cases c : a.action = b.action ∧ a.pattern.told = b.pattern.told ∧ Vapktb.isOneBit (a.pattern.bits ^^^ b.pattern.bits) = true
  · rw [if_pos c] at h
    cases h
    have wfe : ∀ r ∈ t.eraseIdx j, WFR w r := fun r hr => wf.2 r (List.mem_of_mem_eraseIdx hr)
    have hl : (t.take i ++ ([(⟨uniteP a.pattern b.pattern, a.action⟩ : Rule)] ++ (t.eraseIdx j).drop (i + 1))).length + 1 = t.length := by
      rw [List.length_append, List.length_append, List.length_take, List.length_drop, List.length_eraseIdx, if_pos hj]
      show min i t.length + (1 + _) + 1 = _
      omega
    refine ⟨⟨by have := wf.1; omega, fun r hr => ?_⟩, hl⟩
    rcases List.mem_append.mp hr with hr | hr
    · exact wf.2 r (List.mem_of_mem_take hr)
    · rcases List.mem_append.mp hr with hr | hr
      · have e := List.mem_singleton.mp hr
        subst e
        refine ⟨?_, wa.2⟩
        have xu := xor_under wa.1.2.2 (c.2.1 ▸ wb.1.2.2)
        have e1 := and_xor_sub xu
        refine ⟨by show a.pattern.told - _ < _; have := wa.1.1; omega, ?_, ?_⟩
        · show a.pattern.bits ^^^ (a.pattern.bits &&& (a.pattern.bits ^^^ b.pattern.bits)) < _
          rw [and_as_xor]
          exact Nat.lt_of_le_of_lt Nat.and_le_left wa.1.2.1
        · show (a.pattern.bits ^^^ (a.pattern.bits &&& (a.pattern.bits ^^^ b.pattern.bits))) &&& (a.pattern.told - (a.pattern.bits ^^^ b.pattern.bits)) = a.pattern.bits ^^^ (a.pattern.bits &&& (a.pattern.bits ^^^ b.pattern.bits))
          rw [← e1, and_as_xor]
          refine Nat.eq_of_testBit_eq fun k => ?_
          have h1 := congrArg (Nat.testBit · k) wa.1.2.2
          simp only [Nat.testBit_and, Nat.testBit_xor] at h1 ⊢
          cases h3 : a.pattern.bits.testBit k <;> cases h4 : b.pattern.bits.testBit k <;> cases h5 : a.pattern.told.testBit k <;> simp_all
      · exact wfe r (List.mem_of_mem_drop hr)
  · rw [if_neg c] at h
    cases h
/-! ### the first pair -/
theorem fs_flat {α β γ : Type} (g : α → List β) (f : β → Option γ) : ∀ l : List α, (l.flatMap g).findSome? f = l.findSome? fun x => (g x).findSome? f
  | [] => rfl
  | x :: l => by
    rw [List.flatMap_cons, List.findSome?_append, fs_flat g f l, List.findSome?_cons]
    cases (g x).findSome? f <;> rfl
theorem fs_filter_map {α β γ : Type} (p : α → Bool) (h : α → β) (f : β → Option γ) : ∀ l : List α, ((l.filter p).map h).findSome? f = l.findSome? fun x => if p x = true then f (h x) else none
  | [] => rfl
  | x :: l => by
    rw [List.findSome?_cons, List.filter_cons]
    cases e : p x with
    | true =>
      rw [if_pos rfl, if_pos rfl, List.map_cons, List.findSome?_cons, fs_filter_map p h f l]
    | false =>
      rw [if_neg Bool.false_ne_true, if_neg Bool.false_ne_true, fs_filter_map p h f l]
theorem fs_range_none {γ : Type} {n : Nat} {f : Nat → Option γ} (h : ∀ i, i < n → f i = none) : (List.range n).findSome? f = none := by
  rw [List.findSome?_eq_none_iff]
  intro x hx
  exact h x (List.mem_range.mp hx)
theorem fs_range_some {γ : Type} {f : Nat → Option γ} {i : Nat} {r : γ} (h : f i = some r) (b : ∀ j, j < i → f j = none) : ∀ n, i < n → (List.range n).findSome? f = some r
  | n + 1, hi => by
    rw [List.range_succ, List.findSome?_append]
    by_cases c : i < n
    · rw [fs_range_some h b n c]
      rfl
    · have e : i = n := by omega
      subst e
      rw [fs_range_none b, List.findSome?_cons, h]
      rfl
def tryPair (n : Nat) (t : Table) (i j : Nat) : Option (Nat × Nat × Table) := (Vapktb.joined t i j).bind fun u => if Vapktb.sameTables n t u then some (i, j, u) else none
def firstPair (n : Nat) (t : Table) : Option (Nat × Nat × Table) := (List.range t.length).findSome? fun i => (List.range t.length).findSome? fun j => if i < j then tryPair n t i j else none
theorem findSome_map {α β γ : Type} (f : α → Option β) (g : β → γ) : ∀ l : List α, (l.findSome? f).map g = l.findSome? fun x => (f x).map g
  | [] => rfl
  | x :: l => by
    rw [List.findSome?_cons, List.findSome?_cons]
    cases f x with
    | none => exact findSome_map f g l
    | some y => rfl
theorem firstLess_eq (n : Nat) (t : Table) : Vapktb.firstLess n t = match (Vapktb.spare n t).head? with
    | some i => some (.out i, t.eraseIdx i)
    | none => (firstPair n t).map fun x => (.join x.1 x.2.1, x.2.2) := by
  unfold Vapktb.firstLess
  cases (Vapktb.spare n t).head? with
  | some i => rfl
  | none =>
    show (Vapktb.pairs t.length).findSome? _ = _
    unfold Vapktb.pairs firstPair
    rw [fs_flat, findSome_map]
    congr 1
    funext i
    rw [fs_filter_map, findSome_map]
    congr 1
    funext j
    by_cases c : i < j
    · rw [if_pos (decide_eq_true c), if_pos c]
      unfold tryPair
      show (Vapktb.joined t i j).bind _ = _
      cases Vapktb.joined t i j with
      | none => rfl
      | some u =>
        show (if Vapktb.sameTables n t u = true then _ else _) = Option.map _ (if Vapktb.sameTables n t u = true then _ else _)
        cases Vapktb.sameTables n t u <;> rfl
    · rw [if_neg (by rw [decide_eq_false c]; exact Bool.false_ne_true), if_neg c]
      rfl
theorem findSome_mem {α β : Type} {f : α → Option β} : ∀ {l : List α} {y : β}, l.findSome? f = some y → ∃ x ∈ l, f x = some y
  | x :: l, y, h => by
    rw [List.findSome?_cons] at h
    cases e : f x with
    | none =>
      rw [e] at h
      obtain ⟨z, hz, hy⟩ := findSome_mem h
      exact ⟨z, List.mem_cons_of_mem _ hz, hy⟩
    | some v =>
      rw [e] at h
      exact ⟨x, List.mem_cons_self, e.trans h⟩
theorem firstPair_wf {n : Nat} {t : Table} (wf : WFT n t) {i j : Nat} {u : Table} (h : firstPair n t = some (i, j, u)) : WFT n u ∧ u.length + 1 = t.length ∧ i < t.length ∧ j < t.length := by
  unfold firstPair at h
  obtain ⟨a, ha, h⟩ := findSome_mem h
  obtain ⟨b, hb, h⟩ := findSome_mem h
  by_cases c : a < b
  · rw [if_pos c] at h
    unfold tryPair at h
    obtain ⟨v, hv, h⟩ := Option.bind_eq_some_iff.mp h
    cases hs : Vapktb.sameTables n t v with
    | false => rw [hs] at h; cases h
    | true =>
      rw [hs] at h
      cases h
      obtain ⟨h1, h2⟩ := joined_wf wf c (List.mem_range.mp hb) hv
      exact ⟨h1, h2, List.mem_range.mp ha, List.mem_range.mp hb⟩
  · rw [if_neg c] at h
    cases h
theorem spare_lt {n : Nat} {t : Table} {i : Nat} (h : i ∈ Vapktb.spare n t) : i < t.length := List.mem_range.mp (List.mem_filter.mp h).1
theorem erase_wf {n : Nat} {t : Table} {i : Nat} (wf : WFT n t) : WFT n (t.eraseIdx i) := ⟨Nat.le_trans (List.length_eraseIdx_le t i) wf.1, fun r hr => wf.2 r (List.mem_of_mem_eraseIdx hr)⟩
theorem firstLess_wf {n : Nat} {t : Table} (wf : WFT n t) {x : Vapktb.Less × Table} (h : Vapktb.firstLess n t = some x) : WFT n x.2 ∧ x.2.length + 1 = t.length := by
  rw [firstLess_eq] at h
  cases e : (Vapktb.spare n t).head? with
  | some i =>
    rw [e] at h
    cases h
    have hi := spare_lt (List.mem_of_mem_head? e)
    refine ⟨erase_wf wf, ?_⟩
    show (t.eraseIdx i).length + 1 = _
    rw [List.length_eraseIdx, if_pos hi]
    omega
  | none =>
    rw [e] at h
    obtain ⟨⟨i, j, u⟩, hp, rfl⟩ := Option.map_eq_some_iff.mp h
    obtain ⟨h1, h2, _⟩ := firstPair_wf wf hp
    exact ⟨h1, h2⟩
theorem less_step {n : Nat} {t : Table} (wf : WFT n t) : Vapktb.small n t = match Vapktb.firstLess n t with
    | none => ([], t)
    | some x => (x.1 :: (Vapktb.small n x.2).1, (Vapktb.small n x.2).2) := by
  unfold Vapktb.small
  cases e : t.length with
  | zero =>
    have : t = [] := List.eq_nil_of_length_eq_zero e
    subst this
    rfl
  | succ m =>
    show (match Vapktb.firstLess n t with | none => ([], t) | some x => _) = _
    cases h : Vapktb.firstLess n t with
    | none => rfl
    | some x =>
      have := (firstLess_wf wf h).2
      show (x.1 :: (Vapktb.lessened n m x.2).1, (Vapktb.lessened n m x.2).2) = (x.1 :: (Vapktb.lessened n x.2.length x.2).1, (Vapktb.lessened n x.2.length x.2).2)
      rw [show x.2.length = m by omega]
theorem small_wf {n : Nat} : ∀ (m : Nat) {t : Table}, t.length = m → WFT n t → WFT n (Vapktb.small n t).2 ∧ (Vapktb.small n t).1.length ≤ m
  | 0, t, e, wf => by
    have : t = [] := List.eq_nil_of_length_eq_zero e
    subst this
    exact ⟨wf, Nat.le_refl _⟩
  | m + 1, t, e, wf => by
    rw [less_step wf]
    cases h : Vapktb.firstLess n t with
    | none => exact ⟨wf, Nat.zero_le _⟩
    | some x =>
      obtain ⟨h1, h2⟩ := firstLess_wf wf h
      obtain ⟨h3, h4⟩ := small_wf m (show x.2.length = m by omega) h1
      exact ⟨h3, Nat.succ_le_succ h4⟩
end Rt

/-! matches, counting, outcome, outcomes, own_headers, rule_numbers, table_numbers -/
namespace Rt
open PySem PySem.Spec PyProof.Rows L2
open VapktBase (Rule Action Table Rewrite)
section
variable {P : Program} {w : World} {K : PySem.W.Frag} {mg : Str → Option Value} {base : Heap}
def spMatches : Sp := fun vs H Q _ => ∃ (h : Nat) (a : Addr) (p : Pat), vs = [.int (h : Nat), .ref a] ∧ PatAt H a p ∧ Q (.bl (VapktBase.matchesIt p h)) H
theorem ok_matchesD (T : Txt K mg) : FnOk P w K mg base CX0 1 T.matchesD.f T.matchesD.fd ["header", "pattern"] (spMatches) := by
  refine T.matchesD.fn.ok sc_matchesD (fun vs H Q E h => ?_) (fun cdv A outer s H vs Q E hr h => ⟨_, (pss_one (ps_ret (pe_cmpR op_eq (pe_op op_and (pv 0) (pe_ix ix_tup (pv 1) pe_int (fun _ _ => rfl))) (pe_ix ix_tup (pv 1) pe_int (fun _ _ => rfl)) (nomark _)))), ?_⟩)
  · obtain ⟨h, a, p, rfl, _⟩ := h
    rfl
  · obtain ⟨h, a, p, rfl, hp, k⟩ := h
    refine ⟨_, rfl, _, rfl, a, _, _, _, rfl, rfl, SqT.of hp, rfl, _, _, rfl, rfl, _, rfl, a, _, _, _, rfl, rfl, SqT.of hp, rfl, rfl, ?_⟩
    have e : decide (V.int (Builtin.bitAnd (h : Nat) (p.told : Nat)) = V.int (p.bits : Nat)) = VapktBase.matchesIt p h := by
      rw [band]
      unfold VapktBase.matchesIt
      show _ = (h &&& p.told == p.bits)
      by_cases c : h &&& p.told = p.bits
      · rw [c, decide_eq_true rfl, beq_self_eq_true]
      · rw [decide_eq_false (fun z => c (by have := V.int.inj z; omega)), beq_eq_false_iff_ne.mpr c]
    show Q (.bl (decide (V.int (Builtin.bitAnd (h : Nat) (p.told : Nat)) = V.int (p.bits : Nat)))) H
    rw [e]
    exact k
def spCounting : Sp := fun vs H Q _ => ∃ (a : Addr) (t : Table) (h : Nat), vs = [.ref a, .int (h : Nat)] ∧ TabAt H a t ∧ ∀ H', Same H H' → Q (.int (cnt t h : Nat)) H'
theorem ok_counting (T : Txt K mg) : FnOk P w K mg base CX0 2 T.counting.f T.counting.fd ["table", "header"] (spCounting) := by
  refine T.counting.fn.ok sc_counting (fun vs H Q E h => ?_) (fun cdv A outer s H vs Q E hr h => ⟨_, (pss_cons (ps_for PassesOwn.never rfl (pi_enum (by rfl) T.zenumerate (pa_cons (pv 0) pa_nil)) (pg_tup rfl (pgs_cons (pg_name (i := 2) sc_counting.nd rfl (Or.inl rfl)) (pgs_cons (pg_name (i := 3) sc_counting.nd rfl (Or.inl rfl)) pgs_nil))) (pss_one (ps_if (pt_val (pe_call (ok_matchesD T) (hr.mono (by decide)) rfl T.matchesD.gl T.matchesD.kp T.matchesD.bd .nil pass0 (pa_cons (pv 1) (pa_cons (pe_ix ix_tup (pv 3) pe_int (fun _ _ => rfl)) pa_nil)))) (pss_one (ps_ret (pv 2))) pss_nil)))
      (pss_one (ps_ret (pe_callB call_len_seq (by rfl) T.zlen PySem.boot_len (pa_cons (pv 0) pa_nil))))), ?_⟩)
  · obtain ⟨a, t, h, rfl, _⟩ := h
    rfl
  · obtain ⟨a, t, h, rfl, ht, k⟩ := h
    obtain ⟨as, ha, hp⟩ := ht
    refine ⟨_, rfl, a, _, rfl, SqL.of ha, for_enum (fun i σ H' => (∃ vn vr : Option V, σ = [some (.ref a), some (.int (h : Nat)), vn, vr]) ∧ Same H H' ∧ ∀ j, j < i → ∀ q, t[j]? = some q → VapktBase.matchesIt q.pattern h = false)
      ⟨⟨none, none, rfl⟩, Same.refl H, fun j hj => absurd hj (Nat.not_lt_zero j)⟩ (fun i σ H' q => SqL.of (q.2.1 _ _ ha)) ?_ ?_⟩
    · rintro i x D σ H' hx ⟨⟨vn, vr, rfl⟩, s, b⟩ hD
      obtain ⟨ra, hra, rfl⟩ := refs_of_at hx
      obtain ⟨r, hr, b1, c1, h1, h2, h3⟩ := Paired.at' hp hra
      have s2 : Same H (upd H' D (.tup [.int (i : Nat), .ref ra])) := s.trans (snew hD)
      refine ⟨D, _, rfl, SqT.of upd_same, rfl, _, _, rfl, _, _, rfl, rfl, ?_⟩
      refine ⟨_, rfl, _, rfl, ra, _, _, _, rfl, rfl, SqT.of (s2 _ _ h1), rfl, h, b1, r.pattern, rfl, s2 _ _ h2, _, rfl, ?_⟩
      cases m : VapktBase.matchesIt r.pattern h with
      | true =>
        have e := cnt_some hr m b
        refine ⟨_, rfl, ?_⟩
        have k := k _ s2
        unfold cnt at k
        rw [e] at k
        exact k
      | false =>
        refine ⟨⟨_, _, rfl⟩, s2, fun j hj q hq => ?_⟩
        rcases Nat.lt_succ_iff_lt_or_eq.mp hj with z | z
        · exact b j z q hq
        · subst z
          rw [hr] at hq
          cases hq
          exact m
    · rintro σ H' ⟨⟨vn, vr, rfl⟩, s, b⟩
      rw [List.length_map, Paired.len hp] at b
      have e := cnt_none b
      have k := k _ s
      unfold cnt at k
      rw [e] at k
      refine ⟨_, rfl, a, _, rfl, .inl (SqL.of (s _ _ ha)), ?_⟩
      rw [List.length_map, Paired.len hp]
      exact k
def spOutcome : Sp := fun vs H Q _ => ∃ (a : Addr) (t : Table) (h : Nat), vs = [.ref a, .int (h : Nat)] ∧ TabAt H a t ∧ ∀ H' p, Same H H' → OutAt H' p (Vapktb.outcome t h) → Q (.ref p) H'
theorem ok_outcome (T : Txt K mg) : FnOk P w K mg base CX0 3 T.outcome.f T.outcome.fd ["table", "header"] (spOutcome) := by
  refine T.outcome.fn.ok sc_outcome (fun vs H Q E h => ?_) (fun cdv A outer s H vs Q E hr h => ⟨_, (pss_cons (ps_set (i := 2) sc_outcome.nd rfl (Or.inl rfl) (pe_call (ok_counting T) (hr.mono (by decide)) rfl T.counting.gl T.counting.kp T.counting.bd .nil pass0 (pa_cons (pv 0) (pa_cons (pv 1) pa_nil))))
      (pss_cons (ps_if (pt_cmpR op_eq (pv 2) (pe_callB call_len_seq (by rfl) T.zlen PySem.boot_len (pa_cons (pv 0) pa_nil)) (nomark _)) (pss_one (ps_ret (pe_tup (pa_cons (pgi rfl T.cHOLE) pa_nil)))) pss_nil)
      (pss_cons (ps_set (i := 3) sc_outcome.nd rfl (Or.inl rfl) (pe_ix ix_tup (pe_ix ix_list (pv 0) (pv 2) (fun _ _ => rfl)) pe_int (fun _ _ => rfl)))
      (pss_cons (ps_if (pt_cmpR op_eq (pe_ix ix_tup (pv 3) pe_int (fun _ _ => rfl)) (pgi rfl T.cDROP) (nomark _)) (pss_one (ps_ret (pe_tup (pa_cons (pgi rfl T.cDROPPED) pa_nil)))) pss_nil)
      (pss_one (ps_ret (pe_tup (pa_cons (pgi rfl T.cSENT) (pa_cons (pe_ix ix_tup (pv 3) pe_int (fun _ _ => rfl)) (pa_cons (pe_op op_or (pe_op op_and (pv 1) (pe_un un_inv (pe_ix ix_tup (pv 3) pe_int (fun _ _ => rfl)))) (pe_ix ix_tup (pv 3) pe_int (fun _ _ => rfl))) pa_nil)))))))))), ?_⟩)
  · obtain ⟨a, t, h, rfl, _⟩ := h
    rfl
  · obtain ⟨a, t, h, rfl, ht, k⟩ := h
    refine ⟨_, rfl, _, rfl, a, t, h, rfl, ht, fun H1 s1 => ?_⟩
    obtain ⟨as, ha, hp⟩ := ht
    have ha1 := s1 _ _ ha
    refine ⟨_, rfl, _, rfl, a, _, rfl, .inl (SqL.of ha1), rfl, _, rfl, ?_⟩
    rw [List.length_map, Paired.len hp]
    by_cases c : cnt t h = t.length
    · refine ifT (decide_eq_true (by rw [c])) ⟨(by show 1 ≤ sizeLine; decide), fun p hp' => k _ p (s1.trans (snew hp')) ?_⟩
      rw [out_hole c]
      exact upd_same
    · refine ifF (decide_eq_false fun z => c (by have := V.int.inj z; omega)) ?_
      obtain ⟨r, hr, ho, _⟩ := out_at c
      obtain ⟨ra, hra, b1, c1, h1, h2, h3⟩ := Paired.at hp hr
      have h1' := s1 _ _ h1
      have h3' : ActAt H1 c1 r.action := s1 _ _ h3
      refine ⟨_, rfl, _, rfl, a, _, _, _, rfl, rfl, SqL.of ha1, atI_nat (refs_at hra), ra, _, _, _, rfl, rfl, SqT.of h1', rfl, ?_⟩
      unfold ActAt at h3'
      rw [ho] at k
      cases hact : r.action with
      | drop =>
        rw [hact] at h3' k
        refine ⟨_, rfl, c1, _, _, _, rfl, rfl, SqT.of h3', rfl, rfl, _, rfl, ?_⟩
        exact ⟨(by show 1 ≤ sizeLine; decide), fun p hp' => k _ p (s1.trans (snew hp')) upd_same⟩
      | send rw' port =>
        rw [hact] at h3' k
        refine ⟨_, rfl, c1, _, _, _, rfl, rfl, SqT.of h3', rfl, rfl, _, rfl, ?_⟩
        refine ⟨_, rfl, c1, _, _, _, rfl, rfl, SqT.of h3', rfl, _, rfl, _, rfl, c1, _, _, _, rfl, rfl, SqT.of h3', rfl, _, rfl, _, _, rfl, rfl, _, rfl, c1, _, _, _, rfl, rfl, SqT.of h3', rfl, _, _, rfl, rfl, (by show 3 ≤ sizeLine; decide), fun p hp' => k _ p (s1.trans (snew hp')) ?_⟩
        refine upd_same.trans (congrArg (fun z => some (HO.tup [V.int 2, V.int (port : Nat), V.int z])) ?_)
        show Builtin.bitOr (Builtin.bitAnd (h : Nat) (Builtin.bitNot (rw'.mask : Nat))) (rw'.bits : Nat) = _
        rw [band_not, bor]
        rfl
theorem pow_le {n : Nat} (h : n ≤ 7) : 2 ^ n ≤ 128 := Nat.pow_le_pow_right (by decide) h
theorem shl1N (n : Nat) : ((1 : Int) * 2 ^ (Int.toNat (n : Int))).toNat = 2 ^ n := by rw [shl1]; exact Int.toNat_natCast _
theorem shl1B {n : Nat} (h : n ≤ 7) : -(2 ^ 62) ≤ (1 : Int) * 2 ^ (Int.toNat (n : Int)) ∧ (1 : Int) * 2 ^ (Int.toNat (n : Int)) < 2 ^ 62 := by
  rw [shl1]
  have := pow_le h
  generalize 2 ^ n = m at this ⊢
  have e : (2 : Int) ^ 62 = 4611686018427387904 := by decide
  rw [e]
  omega
theorem zadd (i : Nat) : (0 : Int) + (i : Nat) = (i : Nat) := by omega
def spOutcomes : Sp := fun vs H Q _ => ∃ (a : Addr) (t : Table) (n : Nat), vs = [.ref a, .int (n : Nat)] ∧ TabAt H a t ∧ n ≤ 7 ∧ ∀ H' p, Same H H' → LstAt OutAt H' p (outs n t) → Q (.ref p) H'
theorem ok_outcomes (T : Txt K mg) : FnOk P w K mg base CX0 4 T.outcomes.f T.outcomes.fd ["table", "bits"] (spOutcomes) := by
  refine T.outcomes.fn.ok sc_outcomes (fun vs H Q E h => ?_) (fun cdv A outer s H vs Q E hr h => ⟨_, (pss_one (ps_ret (pe_lc (own := [("header", 2)]) rfl sc_outcomes.nd (pi_range1 rfl T.zrange (pa_cons (pe_op op_shl pe_int (pv 1)) pa_nil)) (blkOk_by (own := [("header", 2)]) (N := ["table", "bits", "header"]) (sc := defScope s_outcomes) (by decide +kernel)) (fun _ _ _ _ _ => (pg_name (i := 2) sc_outcomes.nd rfl (Or.inl rfl))) (fun _ _ _ _ _ => pts_nil) (fun _ _ _ _ _ => (pe_call (ok_outcome T) (hr.mono (by decide)) rfl T.outcome.gl T.outcome.kp T.outcome.bd .nil pass0 (pa_cons (pv 0) (pa_cons (pv 2) pa_nil))))))), ?_⟩)
  · obtain ⟨a, t, n, rfl, _⟩ := h
    rfl
  · obtain ⟨a, t, n, rfl, ht, hn, k⟩ := h
    refine ⟨_, rfl, _, _, rfl, rfl, cpow1 hn, _, rfl, (shl1B hn).1, (shl1B hn).2, fun D hD => ?_⟩
    refine lc_range (lo := 0) (n := _) (fun i H' => Grown OutAt H H' D ((List.range i).map (Vapktb.outcome t))) (Grown.start (Same.refl H) hD) (fun i H' hi g => ?_) (fun H' g => ?_)
    · refine ⟨rfl, _, rfl, _, rfl, a, t, i, congrArg (fun z => [V.ref a, V.int z]) (zadd i), TabAt.same g.same ht, fun H2 p s2 ho => ?_⟩
      obtain ⟨l, h1, h2, h3⟩ := g.more out_tups s2 ho
      rw [shl1N] at hi
      have := pow_le hn
      refine ⟨l, h1, size1000 (by rw [h2, List.length_map, List.length_range]; omega), ?_⟩
      rw [List.range_succ, List.map_append]
      exact h3
    · rw [shl1N] at g
      exact k H' D g.same g.lst
/-- the headers below 2 ^ n for which something is so -/
def hds (n : Nat) (f : Nat → Bool) : List Nat := (List.range (2 ^ n)).filter f
theorem hds_len (n : Nat) (f : Nat → Bool) : (hds n f).length ≤ 2 ^ n := by
  have := List.length_filter_le f (List.range (2 ^ n))
  rw [List.length_range] at this
  exact this
theorem natI_snoc (l : List Nat) (i : Nat) : natI (l ++ [i]) = natI l ++ [(i : Int)] := natI_app l [i]
theorem filter_snoc (f : Nat → Bool) (i : Nat) : (List.range (i + 1)).filter f = (List.range i).filter f ++ (if f i = true then [i] else []) := by
  rw [List.range_succ, List.filter_append]
  cases h : f i <;> simp [h]
def spOwn : Sp := fun vs H Q _ => ∃ (a : Addr) (t : Table) (m n : Nat), vs = [.ref a, .int (m : Nat), .int (n : Nat)] ∧ TabAt H a t ∧ n ≤ 7 ∧ ∀ H' p, Same H H' → IntsAt H' p (natI (hds n fun h => cnt t h == m)) → Q (.ref p) H'
theorem ok_own_headers (T : Txt K mg) : FnOk P w K mg base CX0 3 T.own_headers.f T.own_headers.fd ["table", "number", "bits"] (spOwn) := by
  refine T.own_headers.fn.ok sc_own_headers (fun vs H Q E h => ?_) (fun cdv A outer s H vs Q E hr h => ⟨_, (pss_one (ps_ret (pe_lc (own := [("header", 3)]) rfl sc_own_headers.nd (pi_range1 rfl T.zrange (pa_cons (pe_op op_shl pe_int (pv 2)) pa_nil)) (blkOk_by (own := [("header", 3)]) (N := ["table", "number", "bits", "header"]) (sc := defScope s_own_headers) (by decide +kernel)) (fun _ _ _ _ _ => (pg_name (i := 3) sc_own_headers.nd rfl (Or.inl rfl))) (fun _ _ _ _ _ => pts_one (pt_cmpR op_eq (pe_call (ok_counting T) (hr.mono (by decide)) rfl T.counting.gl T.counting.kp T.counting.bd .nil pass0 (pa_cons (pv 0) (pa_cons (pv 3) pa_nil))) (pv 1) (nomark _))) (fun _ _ _ _ _ => (pv 3))))), ?_⟩)
  · obtain ⟨a, t, m, n, rfl, _⟩ := h
    rfl
  · obtain ⟨a, t, m, n, rfl, ht, hn, k⟩ := h
    refine ⟨_, rfl, _, _, rfl, rfl, cpow1 hn, _, rfl, (shl1B hn).1, (shl1B hn).2, fun D hD => ?_⟩
    refine lc_range (lo := 0) (n := _) (fun i H' => GrownI H H' D (natI ((List.range i).filter fun h => cnt t h == m))) (GrownI.start (Same.refl H) hD) (fun i H' hi g => ?_) (fun H' g => ?_)
    · refine ⟨rfl, _, rfl, _, rfl, a, t, i, congrArg (fun z => [V.ref a, V.int z]) (zadd i), TabAt.same g.same ht, fun H2 s2 => ⟨_, rfl, rfl, _, rfl, ?_⟩⟩
      rw [filter_snoc]
      by_cases c : cnt t i = m
      · refine ifT (decide_eq_true (by rw [c])) ⟨_, rfl, ?_⟩
        obtain ⟨l, h1, h2, h3⟩ := g.more (z := (i : Nat)) s2
        rw [shl1N] at hi
        have := pow_le hn
        have hl := List.length_filter_le (fun h => cnt t h == m) (List.range i)
        rw [List.length_range] at hl
        refine ⟨l, h1, size1000 (by rw [h2]; unfold natI; rw [List.length_map]; omega), ?_⟩
        rw [if_pos (by simp [c]), natI_snoc, zadd]
        exact h3
      · refine ifF (decide_eq_false fun z => c (by have := V.int.inj z; omega)) ?_
        rw [if_neg (by simp [c]), List.append_nil]
        exact g.on s2
    · rw [shl1N] at g
      exact k H' D g.same g.lst
def ruleI (r : Rule) : List Int := VapktBase.flatRule r
def spRuleNums : Sp := fun vs H Q _ => ∃ (a : Addr) (r : Rule), vs = [.ref a] ∧ RuleAt H a r ∧ ∀ H' p, Same H H' → IntsAt H' p (VapktBase.flatRule r) → Q (.ref p) H'
theorem flat_rule (r : Rule) : [V.int (r.pattern.told : Nat), V.int (r.pattern.bits : Nat)] ++ actV r.action = (VapktBase.flatRule r).map V.int := by
  obtain ⟨p, a⟩ := r
  cases a <;> rfl
theorem ok_rule_numbers (T : Txt K mg) : FnOk P w K mg base CX0 1 T.rule_numbers.f T.rule_numbers.fd ["rule"] (spRuleNums) := by
  refine T.rule_numbers.fn.ok sc_rule_numbers (fun vs H Q E h => ?_) (fun cdv A outer s H vs Q E hr h => ⟨_, (pss_one (ps_ret (pe_op op_cat (pe_callTy call_list_of (by rfl) T.zlist (by decide +kernel) (pa_cons (pe_ix ix_tup (pv 0) pe_int (fun _ _ => rfl)) pa_nil)) (pe_callTy call_list_of (by rfl) T.zlist (by decide +kernel) (pa_cons (pe_ix ix_tup (pv 0) pe_int (fun _ _ => rfl)) pa_nil))))), ?_⟩)
  · obtain ⟨a, r, rfl, _⟩ := h
    rfl
  · obtain ⟨a, r, rfl, ⟨b, c, h1, h2, h3⟩, k⟩ := h
    refine ⟨_, rfl, a, _, _, _, rfl, rfl, SqT.of h1, rfl, b, _, rfl, .inr (SqT.of h2), fun p1 n1 => ?_⟩
    have s1 := snew (H := H) (o := .lst [.int (r.pattern.told : Nat), .int (r.pattern.bits : Nat)]) n1
    refine ⟨_, rfl, a, _, _, _, rfl, rfl, SqT.of (s1 _ _ h1), rfl, c, _, rfl, .inr (SqT.of (s1 _ _ h3)), fun p2 n2 => ?_⟩
    have s2 := snew (o := .lst (actV r.action)) n2
    refine ⟨p1, p2, _, _, rfl, rfl, s2 _ _ upd_same, upd_same, ?_, fun p3 n3 => k _ p3 ((s1.trans s2).trans (snew n3)) ?_⟩
    · refine size1000' ?_
      have : (actV r.action).length ≤ 4 := by cases r.action <;> simp [actV]
      show 2 + _ ≤ _
      omega
    · exact upd_same.trans (congrArg (fun z => some (HO.lst z)) (flat_rule r))
theorem flatRule_len (r : Rule) : (VapktBase.flatRule r).length ≤ 6 := by
  obtain ⟨p, a⟩ := r
  cases a <;> simp [VapktBase.flatRule, VapktBase.flatPattern, VapktBase.flatAction]
theorem flatRules_len (t : Table) : (t.flatMap VapktBase.flatRule).length ≤ 6 * t.length := by
  induction t with
  | nil => simp
  | cons r t ih =>
    rw [List.flatMap_cons, List.length_append, List.length_cons]
    have := flatRule_len r
    omega
def spTabNums : Sp := fun vs H Q _ => ∃ (a : Addr) (t : Table), vs = [.ref a] ∧ TabAt H a t ∧ t.length ≤ 8 ∧ ∀ H' p, H p = none → Same H H' → IntsAt H' p (VapktBase.flatTable t) → Q (.ref p) H'
theorem ok_table_numbers (T : Txt K mg) : FnOk P w K mg base CX0 2 T.table_numbers.f T.table_numbers.fd ["table"] (spTabNums) := by
  refine T.table_numbers.fn.ok sc_table_numbers (fun vs H Q E h => ?_) (fun cdv A outer s H vs Q E hr h => ⟨_, (pss_cons (ps_set (i := 1) sc_table_numbers.nd rfl (Or.inl rfl) (pe_lst (pa_cons (pe_callB call_len_seq (by rfl) T.zlen PySem.boot_len (pa_cons (pv 0) pa_nil)) pa_nil)))
      (pss_cons (ps_for PassesOwn.never rfl (pi_list (pv 0)) (pg_name (i := 2) sc_table_numbers.nd rfl (Or.inl rfl)) (pss_one (ps_expr (pe_bm PySem.F.plainAttrs_list PySem.F.slot_list_extend PySem.F.type_list_extend mt_extend (pv 1) (pa_cons (pe_call (ok_rule_numbers T) (hr.mono (by decide)) rfl T.rule_numbers.gl T.rule_numbers.kp T.rule_numbers.bd .nil pass0 (pa_cons (pv 2) pa_nil)) pa_nil)))))
      (pss_one (ps_ret (pv 1))))), ?_⟩)
  · obtain ⟨a, t, rfl, _⟩ := h
    rfl
  · obtain ⟨a, t, rfl, ht, h8, k⟩ := h
    obtain ⟨as, ha, hp⟩ := ht
    have hl := Paired.len hp
    refine ⟨_, rfl, a, _, rfl, .inl (SqL.of ha), (by show 1 ≤ sizeLine; decide), fun D hD => ?_⟩
    rw [List.length_map, hl]
    have g0 : GrownI H (upd H D (.lst [.int (t.length : Nat)])) D ((t.length : Int) :: (t.take 0).flatMap VapktBase.flatRule) := ⟨upd_same, snew hD, hD⟩
    refine ⟨_, rfl, a, rfl, ⟨_, SqL.of (g0.same _ _ ha)⟩, for_list (K := K) (a := a) (xs := as.map V.ref) (fun i σ H' => (∃ vr : Option V, σ = [some (.ref a), some (.ref D), vr]) ∧ GrownI H H' D ((t.length : Int) :: (t.take i).flatMap VapktBase.flatRule))
      ⟨⟨none, rfl⟩, g0⟩ (fun i σ H' _ q => SqL.of (q.2.same _ _ ha)) ?_ ?_⟩
    · rintro i x σ H' hx ⟨⟨vr, rfl⟩, g⟩
      obtain ⟨ra, hra, rfl⟩ := refs_of_at hx
      obtain ⟨r, hr, hR⟩ := Paired.at' hp hra
      refine ⟨_, rfl, .inl ⟨rfl, _, SqL.of g.lst⟩, _, rfl, ra, r, rfl, RuleAt.same g.same hR, fun H2 p s2 hI => ?_⟩
      refine ⟨D, p, _, _, rfl, rfl, s2 _ _ g.lst, hI, size1000' ?_, ⟨_, rfl⟩, ?_⟩
      · rw [List.length_map, List.length_map, List.length_cons]
        have := flatRules_len (t.take i)
        have := flatRule_len r
        have : (t.take i).length ≤ 8 := by rw [List.length_take]; omega
        omega
      · rw [take_one hr, List.flatMap_append]
        have := g.put s2 (VapktBase.flatRule r)
        rw [List.flatMap_singleton]
        exact this
    · rintro σ H' ⟨⟨vr, rfl⟩, g⟩
      rw [List.length_map, hl, List.take_length] at g
      exact ⟨_, rfl, k H' D g.new g.same g.lst⟩
end
end Rt

/-! without, exchanged, is_one_bit, counted, sort_of, bit_otherwise, refuse_if, set_patterns, set_numbers -/
namespace Rt
open PySem PySem.Spec PyProof.Rows L2
open VapktBase (Rule Action Table Rewrite)
theorem cut_to (l : List V) (i : Nat) : cutV l none (some (i : Int)) = l.take i := by
  unfold cutV
  rw [HT.sIx_none, HT.sIx_nat, List.drop_zero, Nat.sub_zero, List.take_eq_take_iff]
  omega
theorem cut_from (l : List V) (i : Nat) : cutV l (some (i : Int)) none = l.drop i := by
  unfold cutV
  rw [HT.sIx_none, HT.sIx_nat]
  by_cases h : i ≤ l.length
  · rw [Nat.min_eq_left h, List.take_of_length_le (by rw [List.length_drop]; omega)]
  · rw [Nat.min_eq_right (by omega), List.drop_of_length_le (Nat.le_refl _), List.drop_of_length_le (by omega), List.take_nil]
theorem map_take' {α β : Type} (f : α → β) (l : List α) (i : Nat) : (l.map f).take i = (l.take i).map f := (List.map_take).symm
theorem map_drop' {α β : Type} (f : α → β) (l : List α) (i : Nat) : (l.map f).drop i = (l.drop i).map f := (List.map_drop).symm
theorem cutR_to (as : List Addr) (i : Nat) : cutV (as.map V.ref) none (some (i : Int)) = (as.take i).map V.ref := by rw [cut_to, map_take']
theorem cutR_from (as : List Addr) (i : Nat) : cutV (as.map V.ref) (some (i : Int)) none = (as.drop i).map V.ref := by rw [cut_from, map_drop']
theorem nsucc (i : Nat) : ((i : Nat) : Int) + 1 = ((i + 1 : Nat) : Int) := by omega
section
variable {P : Program} {w : World} {K : PySem.W.Frag} {mg : Str → Option Value} {base : Heap}
def spWithout : Sp := fun vs H Q _ => ∃ (a : Addr) (t : Table) (i : Nat), vs = [.ref a, .int (i : Nat)] ∧ TabAt H a t ∧ t.length ≤ 100 ∧ ∀ H' p, H p = none → Same H H' → TabAt H' p (t.eraseIdx i) → Q (.ref p) H'
theorem ok_without (T : Txt K mg) : FnOk P w K mg base CX0 1 T.without.f T.without.fd ["table", "number"] (spWithout) := by
  refine T.without.fn.ok sc_without (fun vs H Q E h => ?_) (fun cdv A outer s H vs Q E hr h => ⟨_, (pss_one (ps_ret (pe_op op_cat (pe_slice sl_list (pv 0) po_none (po_some (pv 1))) (pe_slice sl_list (pv 0) (po_some (pe_op op_add (pv 1) pe_int)) po_none)))), ?_⟩)
  · obtain ⟨a, t, i, rfl, _⟩ := h
    rfl
  · obtain ⟨a, t, i, rfl, ⟨as, ha, hp⟩, h8, k⟩ := h
    have hl := Paired.len hp
    refine ⟨_, rfl, _, rfl, _, rfl, a, _, rfl, SqL.of ha, fun p1 n1 => ?_⟩
    rw [cutR_to]
    have s1 := snew (o := .lst ((as.take i).map V.ref)) n1
    refine ⟨_, rfl, _, rfl, _, _, rfl, rfl, _, rfl, a, _, rfl, SqL.of (s1 _ _ ha), fun p2 n2 => ?_⟩
    rw [nsucc, cutR_from]
    have s2 := snew (o := .lst ((as.drop (i + 1)).map V.ref)) n2
    refine ⟨p1, p2, _, _, rfl, rfl, s2 _ _ upd_same, upd_same, size1000' ?_, fun p3 n3 => k _ p3 ((s1.trans s2).free n3) ((s1.trans s2).trans (snew n3)) ?_⟩
    · rw [List.length_map, List.length_map, List.length_take, List.length_drop]
      omega
    · refine ⟨as.take i ++ as.drop (i + 1), by rw [upd_same, List.map_append], ?_⟩
      rw [List.eraseIdx_eq_take_drop_succ]
      exact Paired.mapP (Paired.app (Paired.take i hp) (Paired.drop (i + 1) hp)) fun _ _ q => RuleAt.same ((s1.trans s2).trans (snew n3)) q
theorem turned_eq {t : Table} {i : Nat} {a b : Rule} (ha : t[i]? = some a) (hb : t[i + 1]? = some b) : Vapktb.turned t i = t.take i ++ [b, a] ++ t.drop (i + 2) := by
  unfold Vapktb.turned
  rw [ha, hb]
  show (t.set i b).set (i + 1) a = _
  obtain ⟨h1, e1⟩ := List.getElem?_eq_some_iff.mp ha
  obtain ⟨h2, e2⟩ := List.getElem?_eq_some_iff.mp hb
  refine List.ext_getElem? fun j => ?_
  rw [List.getElem?_set, List.getElem?_set, List.length_set]
  rw [List.append_assoc, List.getElem?_append, List.getElem?_append, List.length_take, Nat.min_eq_left (by omega)]
  by_cases c1 : j < i
  · rw [if_neg (by omega), if_neg (by omega), if_pos c1, List.getElem?_take_of_lt c1]
  · rw [if_neg c1]
    by_cases c2 : j = i
    · subst c2
      rw [if_neg (by omega), if_pos rfl, if_pos h1, if_pos (by simp)]
      simp
    · by_cases c3 : j = i + 1
      · subst c3
        rw [if_pos rfl, if_pos h2, if_pos (by simp)]
        simp
      · rw [if_neg (by omega), if_neg (by omega), if_neg (by simp; omega), List.getElem?_drop]
        congr 1
        simp
        omega
theorem turned_nat {t : Table} {i : Nat} (h : i + 1 < t.length) : Vapktb.turned t i = t.take i ++ ([t[i + 1]'h, t[i]'(by omega)] ++ t.drop (i + 2)) := by
  rw [turned_eq (List.getElem?_eq_getElem (by omega)) (List.getElem?_eq_getElem h), List.append_assoc]
def spExch : Sp := fun vs H Q _ => ∃ (a : Addr) (t : Table) (i : Nat), vs = [.ref a, .int (i : Nat)] ∧ TabAt H a t ∧ t.length ≤ 100 ∧ i + 1 < t.length ∧ ∀ H' p, Same H H' → TabAt H' p (Vapktb.turned t i) → Q (.ref p) H'
theorem ok_exchanged (T : Txt K mg) : FnOk P w K mg base CX0 1 T.exchanged.f T.exchanged.fd ["table", "number"] (spExch) := by
  refine T.exchanged.fn.ok sc_exchanged (fun vs H Q E h => ?_) (fun cdv A outer s H vs Q E hr h => ⟨_, (pss_one (ps_ret (pe_op op_cat (pe_op op_cat (pe_slice sl_list (pv 0) po_none (po_some (pv 1))) (pe_lst (pa_cons (pe_ix ix_list (pv 0) (pe_op op_add (pv 1) pe_int) (fun _ _ => rfl)) (pa_cons (pe_ix ix_list (pv 0) (pv 1) (fun _ _ => rfl)) pa_nil)))) (pe_slice sl_list (pv 0) (po_some (pe_op op_add (pv 1) pe_int)) po_none)))), ?_⟩)
  · obtain ⟨a, t, i, rfl, _⟩ := h
    rfl
  · obtain ⟨a, t, i, rfl, ⟨as, ha, hp⟩, h8, hi, k⟩ := h
    have hl := Paired.len hp
    obtain ⟨a1, ha1, r1⟩ := Paired.at hp (List.getElem?_eq_getElem hi)
    obtain ⟨a0, ha0, r0⟩ := Paired.at hp (List.getElem?_eq_getElem (show i < t.length by omega))
    refine ⟨_, rfl, _, rfl, _, rfl, a, _, rfl, SqL.of ha, fun p1 n1 => ?_⟩
    rw [cutR_to]
    have s1 := snew (o := .lst ((as.take i).map V.ref)) n1
    refine ⟨_, rfl, _, rfl, _, _, rfl, rfl, a, _, _, _, rfl, rfl, SqL.of (s1 _ _ ha), by rw [nsucc]; exact atI_nat (refs_at ha1), _, rfl, _, rfl, a, _, _, _, rfl, rfl, SqL.of (s1 _ _ ha), atI_nat (refs_at ha0), (by show 2 ≤ sizeLine; decide), fun p2 n2 => ?_⟩
    have s2 := snew (o := .lst [.ref a1, .ref a0]) n2
    have l1 : ((as.take i).map V.ref).length ≤ 100 := by rw [List.length_map, List.length_take]; omega
    refine ⟨p1, p2, _, _, rfl, rfl, s2 _ _ upd_same, upd_same, size1000' (by show _ + 2 ≤ _; omega), fun p3 n3 => ?_⟩
    have s3 := snew (o := .lst ((as.take i).map V.ref ++ [.ref a1, .ref a0])) n3
    refine ⟨_, rfl, _, rfl, _, _, rfl, rfl, _, rfl, a, _, rfl, SqL.of (s3 _ _ (s2 _ _ (s1 _ _ ha))), fun p4 n4 => ?_⟩
    rw [show ((i : Nat) : Int) + 2 = ((i + 2 : Nat) : Int) by omega, cutR_from]
    have s4 := snew (o := .lst ((as.drop (i + 2)).map V.ref)) n4
    have st := ((s1.trans s2).trans s3).trans s4
    refine ⟨p3, p4, _, _, rfl, rfl, s4 _ _ upd_same, upd_same, size1000' ?_, fun p5 n5 => k _ p5 (st.trans (snew n5)) ?_⟩
    · rw [List.length_append, List.length_map (as := as.drop (i + 2)), List.length_drop]
      show _ + 2 + _ ≤ _
      omega
    · refine ⟨as.take i ++ ([a1, a0] ++ as.drop (i + 2)), by rw [upd_same, List.map_append, List.map_append, List.append_assoc]; rfl, ?_⟩
      rw [turned_nat hi]
      exact Paired.mapP (Paired.app (Paired.take i hp) (Paired.app (.cons r1 (.cons r0 .nil)) (Paired.drop (i + 2) hp))) fun _ _ q => RuleAt.same (st.trans (snew n5)) q
def spOneBit : Sp := fun vs H Q _ => ∃ n : Nat, vs = [.int (n : Nat)] ∧ Q (.bl (Vapktb.isOneBit n)) H
theorem ok_is_one_bit (T : Txt K mg) : FnOk P w K mg base CX0 1 T.is_one_bit.f T.is_one_bit.fd ["number"] (spOneBit) := by
  refine T.is_one_bit.fn.ok sc_is_one_bit (fun vs H Q E h => ?_) (fun cdv A outer s H vs Q E hr h => ⟨_, (pss_one (ps_ret (pe_and (pe_cmpR op_gt (pv 0) pe_int (nomark _)) (pe_one (pe_cmpR op_eq (pe_op op_and (pv 0) (pe_op op_sub (pv 0) pe_int)) pe_int (nomark _)))))), ?_⟩)
  · obtain ⟨n, rfl, _⟩ := h
    rfl
  · obtain ⟨n, rfl, k⟩ := h
    refine ⟨_, rfl, _, _, rfl, rfl, _, rfl, ?_⟩
    cases n with
    | zero => exact ifF rfl k
    | succ n =>
      refine ifT (decide_eq_true (by omega)) ⟨_, rfl, _, rfl, _, _, rfl, rfl, _, _, rfl, rfl, rfl, ?_⟩
      show Q (.bl (decide (V.int (Builtin.bitAnd ((n + 1 : Nat) : Int) (((n + 1 : Nat) : Int) - 1)) = V.int 0))) H
      rw [show ((n + 1 : Nat) : Int) - 1 = (n : Nat) by omega, band]
      have e : Vapktb.isOneBit (n + 1) = decide (V.int (((n + 1) &&& n : Nat) : Int) = V.int 0) := by
        unfold Vapktb.isOneBit
        rw [show (n + 1 != 0) = true from by simp, Bool.true_and, Nat.add_sub_cancel]
        show ((n + 1) &&& n == 0) = _
        by_cases c : (n + 1) &&& n = 0
        · rw [c, beq_self_eq_true]; rfl
        · rw [beq_eq_false_iff_ne.mpr c, decide_eq_false fun z => c (by have := V.int.inj z; omega)]
      rw [e] at k
      exact k
def spCounted (K : PySem.W.Frag) : Sp := fun vs H Q _ => ∃ (a : Addr) (ns : List Int), vs = [.ref a] ∧ SqL K H a (ns.map V.int) ∧ ns.length ≤ 1000 ∧ ∀ H' p, H p = none → Same H H' → IntsAt H' p ((ns.length : Int) :: ns) → Q (.ref p) H'
theorem ok_counted (T : Txt K mg) : FnOk P w K mg base CX0 1 T.counted.f T.counted.fd ["row"] (spCounted K) := by
  refine T.counted.fn.ok sc_counted (fun vs H Q E h => ?_) (fun cdv A outer s H vs Q E hr h => ⟨_, (pss_one (ps_ret (pe_op op_cat (pe_lst (pa_cons (pe_callB call_len_seq (by rfl) T.zlen PySem.boot_len (pa_cons (pv 0) pa_nil)) pa_nil)) (pe_callTy call_list_of (by rfl) T.zlist (by decide +kernel) (pa_cons (pv 0) pa_nil))))), ?_⟩)
  · obtain ⟨a, ns, rfl, _⟩ := h
    rfl
  · obtain ⟨a, ns, rfl, hS, hl, k⟩ := h
    refine ⟨_, rfl, a, _, rfl, .inl hS, (by show 1 ≤ sizeLine; decide), fun p1 n1 => ?_⟩
    rw [List.length_map]
    have s1 := snew (o := .lst [.int (ns.length : Nat)]) n1
    refine ⟨_, rfl, a, _, rfl, .inl (s1.seq hS), fun p2 n2 => ?_⟩
    have s2 := snew (o := .lst (ns.map V.int)) n2
    refine ⟨p1, p2, _, _, rfl, rfl, s2 _ _ upd_same, upd_same, size1000' (by rw [List.length_map]; show 1 + _ ≤ _; omega), fun p3 n3 => k _ p3 ((s1.trans s2).free n3) ((s1.trans s2).trans (snew n3)) upd_same⟩
def spSortOf : Sp := fun vs H Q _ => ∃ (a : Addr) (o : Vapktb.Outcome), vs = [.ref a] ∧ OutAt H a o ∧ Q (.int (Vapktb.sortOf o : Nat)) H
theorem ok_sort_of (T : Txt K mg) : FnOk P w K mg base CX0 1 T.sort_of.f T.sort_of.fd ["told"] (spSortOf) := by
  refine T.sort_of.fn.ok sc_sort_of (fun vs H Q E h => ?_) (fun cdv A outer s H vs Q E hr h => ⟨_, (pss_cons (ps_if (pt_cmpR op_eq (pe_ix ix_tup (pv 0) pe_int (fun _ _ => rfl)) (pgi rfl T.cSENT) (nomark _)) (pss_one (ps_ret (pe_op op_add (pgi rfl T.cSENT) (pe_ix ix_tup (pv 0) pe_int (fun _ _ => rfl))))) pss_nil)
      (pss_one (ps_ret (pe_ix ix_tup (pv 0) pe_int (fun _ _ => rfl))))), ?_⟩)
  · obtain ⟨a, o, rfl, _⟩ := h
    rfl
  · obtain ⟨a, o, rfl, ho, k⟩ := h
    unfold OutAt at ho
    cases o with
    | hole => exact ⟨_, rfl, a, _, _, _, rfl, rfl, SqT.of ho, rfl, rfl, _, rfl, _, rfl, a, _, _, _, rfl, rfl, SqT.of ho, rfl, k⟩
    | dropped => exact ⟨_, rfl, a, _, _, _, rfl, rfl, SqT.of ho, rfl, rfl, _, rfl, _, rfl, a, _, _, _, rfl, rfl, SqT.of ho, rfl, k⟩
    | sent p h =>
      refine ⟨_, rfl, a, _, _, _, rfl, rfl, SqT.of ho, rfl, rfl, _, rfl, _, rfl, a, _, _, _, rfl, rfl, SqT.of ho, rfl, _, _, rfl, rfl, ?_⟩
      show Q (.int (2 + (p : Nat))) H
      rw [show (2 : Int) + (p : Nat) = ((p + 2 : Nat) : Int) by omega]
      exact k
def spRefuse (CR : Addr) : Sp := fun vs H Q E => ∃ (b : Bool) (i : Int), vs = [.bl b, .int i] ∧ (b = false → Q .non H) ∧ (b = true → ∀ d, H d = none → E (.ref CR) (some d) (upd H d (.xd [(("why" : Str), .int i)])))
theorem ok_refuse_if (T : Txt K mg) : FnOk P w K mg base (L2.CX P w) 3 T.refuse_if.f T.refuse_if.fd ["truth", "why"] (spRefuse T.cRef) := by
  refine T.refuse_if.fn.okX sc_refuse_if (fun vs H Q E h => ?_) (fun cdv A outer s H vs Q E hr h => ⟨_, (pss_one (ps_if (pt_val (pv 0)) (pss_one (ps_raiseLow rfl T.low hr (takes_of rfl rfl rfl rfl) (pa_cons (pv 1) pa_nil))) pss_nil)), ?_⟩)
  · obtain ⟨b, i, rfl, _⟩ := h
    rfl
  · obtain ⟨b, i, rfl, kF, kT⟩ := h
    refine ⟨_, rfl, b, rfl, ?_⟩
    cases b with
    | false => exact ifF rfl (kF rfl)
    | true => exact ifT rfl ⟨_, rfl, _, rfl, fun d hd => kT rfl d hd⟩
end
end Rt

/-! set_patterns, set_numbers, bit_otherwise -/
namespace Rt
open PySem PySem.Spec PyProof.Rows L2
open VapktBase (Rule Action Table Rewrite)
section
variable {P : Program} {w : World} {K : PySem.W.Frag} {mg : Str → Option Value} {base : Heap}
theorem filter_snoc' (f : Nat → Bool) {l : List Nat} {i x : Nat} (h : l[i]? = some x) : (l.take (i + 1)).filter f = (l.take i).filter f ++ (if f x = true then [x] else []) := by
  rw [take_one h, List.filter_append]
  cases e : f x <;> simp [e]
theorem filter_map_snoc (f : Nat → Bool) (g : Nat → Nat) {l : List Nat} {i x : Nat} (h : l[i]? = some x) : ((l.take (i + 1)).filter f).map g = ((l.take i).filter f).map g ++ (if f x = true then [g x] else []) := by
  rw [filter_snoc' f h, List.map_append]
  cases e : f x <;> simp
theorem filter_take_len (f : Nat → Bool) (l : List Nat) (i : Nat) : ((l.take i).filter f).length ≤ l.length := by
  refine Nat.le_trans (List.length_filter_le _ _) ?_
  rw [List.length_take]
  omega
def spPats (K : PySem.W.Frag) (n : Nat) : Sp := fun vs H Q _ => ∃ (a : Addr) (hs : List Nat) (b : Nat), vs = [.ref a, .int (b : Nat)] ∧ SqL K H a (natV hs) ∧ b < n ∧ b ≤ 7 ∧ hs.length ≤ 1000 ∧ ∀ H' p, H p = none → Same H H' → PatsAt H' p (pats b hs) → Q (.ref p) H'
theorem spPats_len {n : Nat} {vs : List V} {H : Hp} {Q : VK} {E : XK} (h : spPats K n vs H Q E) : vs.length = 2 := by
  obtain ⟨a, hs, b, rfl, _⟩ := h
  rfl
theorem psub (b : Nat) : ((b + 1 : Nat) : Int) - 1 = (b : Nat) := by omega
theorem rec_pats (T : Txt K mg) : ∀ n : Nat, FnOk P w K mg base CX0 n T.set_patterns.f T.set_patterns.fd ["headers", "bits"] (spPats K n)
  | 0 => ⟨fun _ _ _ _ h => spPats_len h, fun A outer s H args us vs Q E hr he hb hv h => False.elim (let ⟨_, _, _, _, _, z, _⟩ := h; Nat.not_lt_zero _ z)⟩
  | n + 1 => by
    have IH := rec_pats T n
    refine T.set_patterns.fn.ok sc_set_patterns (fun vs H Q E h => spPats_len h) (fun cdv A outer s H vs Q E hr h => ⟨_,
      (pss_cons (ps_if (pt_cmpR (op_eqD hr.units) (pv 0) (pe_lst pa_nil) (nomark _)) (pss_one (ps_ret (pe_lst pa_nil))) pss_nil)
      (pss_cons (ps_if (pt_cmpR op_eq (pv 1) pe_int (nomark _)) (pss_one (ps_ret (pe_lst (pa_cons (pe_tup (pa_cons pe_int (pa_cons pe_int pa_nil))) pa_nil)))) pss_nil)
      (pss_cons (ps_set (i := 2) sc_set_patterns.nd rfl (Or.inr rfl) (pe_op op_shl pe_int (pe_op op_sub (pv 1) pe_int)))
      (pss_cons (ps_setLc (i := 3) (own := [("header", 6)]) rfl sc_set_patterns.nd rfl rfl (sw_true rfl rfl rfl (by decide +kernel)) (pi_list (pv 0)) (blkOk_by (own := [("header", 6)]) (N := ["headers", "bits", "worth", "lower", "upper", "found", "header", "told", "ones"]) (sc := defScope s_set_patterns) (by decide +kernel)) (fun _ _ _ _ _ => (pg_name (i := 6) sc_set_patterns.nd rfl (Or.inl rfl))) (fun _ _ _ _ _ => pts_one (pt_cmpR op_lt (pv 6) (pv 2) (nomark _))) (fun _ _ _ _ _ => (pv 6)))
      (pss_cons (ps_setLc (i := 4) (own := [("header", 6)]) rfl sc_set_patterns.nd rfl rfl (sw_true rfl rfl rfl (by decide +kernel)) (pi_list (pv 0)) (blkOk_by (own := [("header", 6)]) (N := ["headers", "bits", "worth", "lower", "upper", "found", "header", "told", "ones"]) (sc := defScope s_set_patterns) (by decide +kernel)) (fun _ _ _ _ _ => (pg_name (i := 6) sc_set_patterns.nd rfl (Or.inl rfl))) (fun _ _ _ _ _ => pts_one (pt_cmpR op_ge (pv 6) (pv 2) (nomark _))) (fun _ _ _ _ _ => (pe_op op_sub (pv 6) (pv 2))))
      (pss_cons (ps_if (pt_cmpR (op_eqD hr.units) (pv 3) (pv 4) (nomark _)) (pss_one (ps_ret (pe_call IH hr rfl T.set_patterns.gl T.set_patterns.kp T.set_patterns.bd .nil pass0 (pa_cons (pv 3) (pa_cons (pe_op op_sub (pv 1) pe_int) pa_nil))))) pss_nil)
      (pss_cons (ps_setLc (i := 5) (own := [("told", 7), ("ones", 8)]) rfl sc_set_patterns.nd rfl rfl (sw_true rfl rfl rfl (by decide +kernel)) (pi_list (pe_call IH hr rfl T.set_patterns.gl T.set_patterns.kp T.set_patterns.bd .nil pass0 (pa_cons (pv 3) (pa_cons (pe_op op_sub (pv 1) pe_int) pa_nil)))) (blkOk_by (own := [("told", 7), ("ones", 8)]) (N := ["headers", "bits", "worth", "lower", "upper", "found", "header", "told", "ones"]) (sc := defScope s_set_patterns) (by decide +kernel)) (fun _ _ _ _ _ => (by show PG _ (.Tuple _ _ _) (gTup K 2 (gCons (gName 7) (gCons (gName 8) gNil))); refine pg_tup rfl ?_; refine pgs_cons (pg_name (i := 7) sc_set_patterns.nd rfl (Or.inl rfl)) ?_; refine pgs_cons (pg_name (i := 8) sc_set_patterns.nd rfl (Or.inl rfl)) ?_; exact pgs_nil)) (fun _ _ _ _ _ => pts_nil) (fun _ _ _ _ _ => (pe_tup (pa_cons (pe_op op_or (pv 7) (pv 2)) (pa_cons (pv 8) pa_nil)))))
      (pss_one (ps_ret (pe_op op_cat (pv 5) (pe_lc (own := [("told", 7), ("ones", 8)]) rfl sc_set_patterns.nd (pi_list (pe_call IH hr rfl T.set_patterns.gl T.set_patterns.kp T.set_patterns.bd .nil pass0 (pa_cons (pv 4) (pa_cons (pe_op op_sub (pv 1) pe_int) pa_nil)))) (blkOk_by (own := [("told", 7), ("ones", 8)]) (N := ["headers", "bits", "worth", "lower", "upper", "found", "header", "told", "ones"]) (sc := defScope s_set_patterns) (by decide +kernel)) (fun _ _ _ _ _ => (by show PG _ (.Tuple _ _ _) (gTup K 2 (gCons (gName 7) (gCons (gName 8) gNil))); refine pg_tup rfl ?_; refine pgs_cons (pg_name (i := 7) sc_set_patterns.nd rfl (Or.inl rfl)) ?_; refine pgs_cons (pg_name (i := 8) sc_set_patterns.nd rfl (Or.inl rfl)) ?_; exact pgs_nil)) (fun _ _ _ _ _ => pts_nil) (fun _ _ _ _ _ => (pe_tup (pa_cons (pe_op op_or (pv 7) (pv 2)) (pa_cons (pe_op op_or (pv 8) (pv 2)) pa_nil))))))))))))))), ?_⟩)
    obtain ⟨a, hs, b, rfl, hS, hb, hb7, hl, k⟩ := h
    refine ⟨_, rfl, (by show 0 ≤ sizeLine; decide), fun p0 n0 => ?_⟩
    have s0 := snew (o := .lst []) n0
    refine ⟨_, _, dp_intlist (ns := natI hs) (s0.seq hS), dp_intlist (ns := natI []) (SqL.of upd_same), sh_ints _, sh_ints _, _, rfl, ?_⟩
    rw [eqv_ints, natI_eq]
    by_cases c0 : hs = []
    · refine ifT (decide_eq_true c0) ⟨(by show 0 ≤ sizeLine; decide), fun p1 n1 => k _ p1 (s0.free n1) (s0.trans (snew n1)) ?_⟩
      rw [c0, pats_nil]
      exact ⟨[], upd_same, .nil⟩
    · refine ifF (decide_eq_false c0) ⟨_, rfl, rfl, _, rfl, ?_⟩
      cases b with
      | zero =>
        refine ifT (decide_eq_true rfl) ⟨(by show 2 ≤ sizeLine; decide), fun p1 n1 => ⟨(by show 1 ≤ sizeLine; decide), fun p2 n2 => k _ p2 ((s0.trans (snew n1)).free n2) ((s0.trans (snew n1)).trans (snew n2)) ?_⟩⟩
        have e : pats 0 hs = [⟨0, 0⟩] := by unfold pats; rw [if_neg c0]
        rw [e]
        exact ⟨[p1], upd_same, .cons (snew n2 _ _ upd_same) .nil⟩
      | succ b =>
        refine ifF (decide_eq_false fun z => by have := V.int.inj z; omega) ⟨_, rfl, _, _, rfl, rfl, _, _, rfl, rfl, ?_⟩
        rw [psub]
        refine ⟨cpow1 (by omega), ?_⟩
        dsimp only
        rw [shl1]
        refine ⟨_, rfl, a, rfl, ⟨_, s0.seq hS⟩, fun D1 m1 => ?_⟩
        refine lc_list (xs := natV hs) (fun i H' => GrownI H H' D1 (natI ((hs.take i).filter fun h => decide (h < 2 ^ b)))) (GrownI.start s0 m1) (fun i H' _ g => g.same.seq hS) (fun i x H' hx g => ?_) (fun H1 g1 => ?_)
        · obtain ⟨h, hh, rfl⟩ := natV_at hx
          refine ⟨rfl, _, rfl, _, rfl, _, _, rfl, rfl, _, rfl, ?_⟩
          rw [filter_snoc' _ hh]
          by_cases c : h < 2 ^ b
          · refine ifT (decide_eq_true (Int.ofNat_lt.mpr c)) ⟨_, rfl, ?_⟩
            obtain ⟨l, h1, h2, h3⟩ := g.more (z := (h : Nat)) (Same.refl _)
            refine ⟨l, h1, size1000 ?_, ?_⟩
            · have := filter_take_len (fun h => decide (h < 2 ^ b)) hs i
              rw [h2]; unfold natI; rw [List.length_map]; omega
            · rw [if_pos (decide_eq_true c), natI_snoc]
              exact h3
          · refine ifF (decide_eq_false fun z => c (Int.ofNat_lt.mp z)) ?_
            rw [if_neg (by rw [decide_eq_false c]; exact Bool.false_ne_true), List.append_nil]
            exact g
        rw [natV_len, List.take_length] at g1
        refine ⟨_, rfl, a, rfl, ⟨_, g1.same.seq hS⟩, fun D2 m2 => ?_⟩
        refine lc_list (xs := natV hs) (fun i H' => GrownI H1 H' D2 (natI (((hs.take i).filter fun h => decide (2 ^ b ≤ h)).map (· - 2 ^ b)))) (GrownI.start (Same.refl H1) m2) (fun i H' _ g => (g1.same.trans g.same).seq hS) (fun i x H' hx g => ?_) (fun H2 g2 => ?_)
        · obtain ⟨h, hh, rfl⟩ := natV_at hx
          refine ⟨rfl, _, rfl, _, rfl, _, _, rfl, rfl, _, rfl, ?_⟩
          rw [filter_map_snoc _ (· - 2 ^ b) hh]
          by_cases c : 2 ^ b ≤ h
          · refine ifT (decide_eq_true (Int.ofNat_le.mpr c)) ⟨_, rfl, _, rfl, _, _, rfl, rfl, ?_⟩
            obtain ⟨l, h1, h2, h3⟩ := g.more (z := (h : Nat) - ((2 ^ b : Nat) : Int)) (Same.refl _)
            refine ⟨l, h1, size1000 ?_, ?_⟩
            · have := filter_take_len (fun h => decide (2 ^ b ≤ h)) hs i
              rw [h2]; unfold natI; rw [List.length_map, List.length_map]; omega
            · rw [if_pos (decide_eq_true c), natI_snoc, Int.ofNat_sub c]
              exact h3
          · refine ifF (decide_eq_false fun z => c (Int.ofNat_le.mp z)) ?_
            rw [if_neg (by rw [decide_eq_false c]; exact Bool.false_ne_true), List.append_nil]
            exact g
        rw [natV_len, List.take_length] at g2
        have l1 : (hs.filter fun h => decide (h < 2 ^ b)).length ≤ 1000 := Nat.le_trans (List.length_filter_le _ _) hl
        have l2 : ((hs.filter fun h => decide (2 ^ b ≤ h)).map (· - 2 ^ b)).length ≤ 1000 := by rw [List.length_map]; exact Nat.le_trans (List.length_filter_le _ _) hl
        generalize eL : (hs.filter fun h => decide (h < 2 ^ b)) = L at g1 l1
        generalize eU : ((hs.filter fun h => decide (2 ^ b ≤ h)).map (· - 2 ^ b)) = U at g2 l2
        have st := g1.same.trans g2.same
        have hL := g2.same _ _ g1.lst
        refine ⟨_, rfl, _, rfl, _, _, dp_intlist (ns := natI L) (SqL.of hL), dp_intlist (ns := natI U) (SqL.of g2.lst), sh_ints _, sh_ints _, _, rfl, ?_⟩
        rw [eqv_ints, natI_eq]
        have kk : pats (b + 1) hs = if L = U then pats b L else (pats b L).map (fun p => ⟨p.told ||| 2 ^ b, p.bits⟩) ++ (pats b U).map fun p => ⟨p.told ||| 2 ^ b, p.bits ||| 2 ^ b⟩ := by
          rw [← eL, ← eU]
          show (if hs = [] then [] else _) = _
          rw [if_neg c0]
        rw [kk] at k
        by_cases c : L = U
        · rw [if_pos c] at k
          refine ifT (decide_eq_true c) ⟨_, rfl, _, rfl, _, _, rfl, rfl, ?_⟩
          exact ⟨D1, L, b, congrArg (fun z => [V.ref D1, V.int z]) (psub b), SqL.of hL, by omega, by omega, l1, fun H3 p f3 s3 hp => k _ p (st.free f3) (st.trans s3) hp⟩
        · rw [if_neg c] at k
          refine ifF (decide_eq_false c) ⟨_, rfl, _, rfl, _, _, rfl, rfl, ?_⟩
          refine ⟨D1, L, b, congrArg (fun z => [V.ref D1, V.int z]) (psub b), SqL.of hL, by omega, by omega, l1, fun H3 q _ s3 hq => ?_⟩
          obtain ⟨qs, hq1, hq2⟩ := hq
          have lq := pats_len b L
          refine ⟨q, rfl, ⟨_, SqL.of hq1⟩, fun D3 m3 => ?_⟩
          refine lc_list (xs := qs.map V.ref) (fun i H' => Grown PatAt H3 H' D3 (((pats b L).take i).map (fun p => (⟨p.told ||| 2 ^ b, p.bits⟩ : Pat)))) (Grown.start (Same.refl H3) m3) (fun i H' _ g => SqL.of (g.same _ _ hq1)) (fun i x H' hx g => ?_) (fun H4 g4 => ?_)
          · obtain ⟨ra, hra, rfl⟩ := refs_of_at hx
            obtain ⟨r, hr, hR⟩ := Paired.at' hq2 hra
            have hR' : PatAt H' ra r := g.same _ _ hR
            refine ⟨ra, _, rfl, SqT.of hR', rfl, _, _, rfl, _, _, rfl, rfl, rfl, ?_⟩
            refine ⟨_, rfl, _, rfl, _, _, rfl, rfl, _, rfl, (by show 2 ≤ sizeLine; decide), fun p np => ?_⟩
            obtain ⟨l, h1, h2, h3⟩ := g.more (x := (⟨r.told ||| 2 ^ b, r.bits⟩ : Pat)) (p := p) pat_tups (snew (o := .tup [.int (Builtin.bitOr (r.told : Nat) ((2 ^ b : Nat) : Int)), .int (r.bits : Nat)]) np) (by
              show upd _ p _ p = _
              rw [upd_same, bor])
            refine ⟨l, h1, size1000 (by rw [h2, List.length_map, List.length_take]; omega), ?_⟩
            rw [take_one hr, List.map_append]
            exact h3
          rw [List.length_map, Paired.len hq2, List.take_length] at g4
          refine ⟨_, rfl, _, rfl, _, rfl, _, _, rfl, rfl, ?_⟩
          have st4 := st.trans (s3.trans g4.same)
          refine ⟨D2, U, b, congrArg (fun z => [V.ref D2, V.int z]) (psub b), SqL.of (g4.same _ _ (s3 _ _ g2.lst)), by omega, by omega, l2, fun H5 u _ s5 hu => ?_⟩
          obtain ⟨us, hu1, hu2⟩ := hu
          have lu := pats_len b U
          refine ⟨u, rfl, ⟨_, SqL.of hu1⟩, fun D4 m5 => ?_⟩
          refine lc_list (xs := us.map V.ref) (fun i H' => Grown PatAt H5 H' D4 (((pats b U).take i).map (fun p => (⟨p.told ||| 2 ^ b, p.bits ||| 2 ^ b⟩ : Pat)))) (Grown.start (Same.refl H5) m5) (fun i H' _ g => SqL.of (g.same _ _ hu1)) (fun i x H' hx g => ?_) (fun H6 g6 => ?_)
          · obtain ⟨ra, hra, rfl⟩ := refs_of_at hx
            obtain ⟨r, hr, hR⟩ := Paired.at' hu2 hra
            have hR' : PatAt H' ra r := g.same _ _ hR
            refine ⟨ra, _, rfl, SqT.of hR', rfl, _, _, rfl, _, _, rfl, rfl, rfl, ?_⟩
            refine ⟨_, rfl, _, rfl, _, _, rfl, rfl, _, rfl, _, rfl, _, _, rfl, rfl, (by show 2 ≤ sizeLine; decide), fun p np => ?_⟩
            obtain ⟨l, h1, h2, h3⟩ := g.more (x := (⟨r.told ||| 2 ^ b, r.bits ||| 2 ^ b⟩ : Pat)) (p := p) pat_tups (snew (o := .tup [.int (Builtin.bitOr (r.told : Nat) ((2 ^ b : Nat) : Int)), .int (Builtin.bitOr (r.bits : Nat) ((2 ^ b : Nat) : Int))]) np) (by
              show upd _ p _ p = _
              rw [upd_same, bor, bor])
            refine ⟨l, h1, size1000 (by rw [h2, List.length_map, List.length_take]; omega), ?_⟩
            rw [take_one hr, List.map_append]
            exact h3
          rw [List.length_map, Paired.len hu2, List.take_length] at g6
          obtain ⟨xs, hx1, hx2⟩ := g4.lst
          obtain ⟨ys, hy1, hy2⟩ := g6.lst
          have s6 := s5.trans g6.same
          refine ⟨D3, D4, _, _, rfl, rfl, s6 _ _ hx1, hy1, size1000' ?_, fun p7 n7 => k _ p7 ((st4.trans s6).free n7) ((st4.trans s6).trans (snew n7)) ?_⟩
          · rw [List.length_map, List.length_map, Paired.len hx2, Paired.len hy2, List.length_map, List.length_map]
            omega
          · refine ⟨xs ++ ys, by rw [upd_same, List.map_append], ?_⟩
            exact Paired.app (Paired.mapP hx2 fun _ _ q => PatAt.same (s6.trans (snew n7)) q) (Paired.mapP hy2 fun _ _ q => PatAt.same (snew n7) q)
theorem ok_set_patterns (T : Txt K mg) : FnOk P w K mg base CX0 8 T.set_patterns.f T.set_patterns.fd ["headers", "bits"] (spPats K 8) := rec_pats T 8
/-- a set's numbers -/
def setL (b : Nat) (hs : List Nat) : List Int := ((pats b hs).length : Int) :: (pats b hs).flatMap VapktBase.flatPattern
theorem flatPats_len (l : List Pat) : (l.flatMap VapktBase.flatPattern).length = 2 * l.length := by
  induction l with
  | nil => rfl
  | cons p l ih =>
    rw [List.flatMap_cons, List.length_append, List.length_cons, ih]
    show 2 + _ = _
    omega
def spSetNums (K : PySem.W.Frag) : Sp := fun vs H Q _ => ∃ (a : Addr) (hs : List Nat) (b : Nat), vs = [.ref a, .int (b : Nat)] ∧ SqL K H a (natV hs) ∧ b ≤ 7 ∧ hs.length ≤ 1000 ∧ ∀ H' p, H p = none → Same H H' → IntsAt H' p (setL b hs) → Q (.ref p) H'
theorem ok_set_numbers (T : Txt K mg) : FnOk P w K mg base CX0 9 T.set_numbers.f T.set_numbers.fd ["headers", "bits"] (spSetNums K) := by
  refine T.set_numbers.fn.ok sc_set_numbers (fun vs H Q E h => ?_) (fun cdv A outer s H vs Q E hr h => ⟨_, (pss_cons (ps_set (i := 2) sc_set_numbers.nd rfl (Or.inl rfl) (pe_call (ok_set_patterns T) (hr.mono (by decide)) rfl T.set_patterns.gl T.set_patterns.kp T.set_patterns.bd .nil pass0 (pa_cons (pv 0) (pa_cons (pv 1) pa_nil))))
      (pss_cons (ps_set (i := 3) sc_set_numbers.nd rfl (Or.inl rfl) (pe_lst (pa_cons (pe_callB call_len_seq (by rfl) T.zlen PySem.boot_len (pa_cons (pv 2) pa_nil)) pa_nil)))
      (pss_cons (ps_for PassesOwn.never rfl (pi_list (pv 2)) (pg_name (i := 4) sc_set_numbers.nd rfl (Or.inl rfl)) (pss_one (ps_expr (pe_bm PySem.F.plainAttrs_list PySem.F.slot_list_extend PySem.F.type_list_extend mt_extendT (pv 3) (pa_cons (pv 4) pa_nil)))))
      (pss_one (ps_ret (pv 3)))))), ?_⟩)
  · obtain ⟨a, hs, b, rfl, _⟩ := h
    rfl
  · obtain ⟨a, hs, b, rfl, hS, hb, hl, k⟩ := h
    refine ⟨_, rfl, _, rfl, a, hs, b, rfl, hS, by omega, hb, hl, fun H1 p _ s1 hp => ?_⟩
    obtain ⟨as, ha, hp⟩ := hp
    have lp := pats_len b hs
    refine ⟨_, rfl, p, _, rfl, .inl (SqL.of ha), (by show 1 ≤ sizeLine; decide), fun D hD => ?_⟩
    rw [List.length_map, Paired.len hp]
    have g0 : GrownI H (upd H1 D (.lst [.int ((pats b hs).length : Nat)])) D (((pats b hs).length : Int) :: ((pats b hs).take 0).flatMap VapktBase.flatPattern) := ⟨upd_same, s1.trans (snew hD), s1.free hD⟩
    have q0 : Same H1 (upd H1 D (.lst [.int ((pats b hs).length : Nat)])) := snew hD
    refine ⟨_, rfl, p, rfl, ⟨_, SqL.of (q0 _ _ ha)⟩, for_list (K := K) (a := p) (xs := as.map V.ref) (fun i σ H' => (∃ vr : Option V, σ = [some (.ref a), some (.int (b : Nat)), some (.ref p), some (.ref D), vr]) ∧ GrownI H1 H' D (((pats b hs).length : Int) :: ((pats b hs).take i).flatMap VapktBase.flatPattern))
      ⟨⟨none, rfl⟩, ⟨upd_same, q0, hD⟩⟩ (fun i σ H' _ q => SqL.of (q.2.same _ _ ha)) ?_ ?_⟩
    · rintro i x σ H' hx ⟨⟨vr, rfl⟩, g⟩
      obtain ⟨ra, hra, rfl⟩ := refs_of_at hx
      obtain ⟨r, hr, hR⟩ := Paired.at' hp hra
      have hR' : PatAt H' ra r := g.same _ _ hR
      refine ⟨_, rfl, .inl ⟨rfl, _, SqL.of g.lst⟩, _, rfl, D, ra, _, _, rfl, rfl, g.lst, SqT.of hR', size1000' ?_, ⟨_, rfl⟩, ?_⟩
      · rw [List.length_map, List.length_cons, flatPats_len, List.length_take]
        show _ + 2 ≤ _
        omega
      · rw [take_one hr, List.flatMap_append, List.flatMap_singleton]
        exact g.put (Same.refl _) (VapktBase.flatPattern r)
    · rintro σ H' ⟨⟨vr, rfl⟩, g⟩
      rw [List.length_map, Paired.len hp, List.take_length] at g
      exact ⟨_, rfl, k H' D (s1.free g.new) (s1.trans g.same) g.lst⟩
/-- how often a number can be halved -/
def hb (n : Nat) : Nat := if n = 0 then 0 else n.log2 + 1
theorem hb_half {n : Nat} (h : 0 < n) : hb n = hb (n / 2) + 1 := by
  unfold hb
  rw [if_neg (by omega)]
  by_cases h1 : n = 1
  · subst h1
    decide
  · rw [if_neg (by omega), Nat.log2_def n, if_pos (by omega)]
def spBitOther : Sp := fun vs H Q _ => ∃ (h : Nat) (a : Addr) (p : Pat), vs = [.int (h : Nat), .ref a] ∧ PatAt H a p ∧ Q (.int ((hb ((h ^^^ p.bits) &&& p.told) : Nat) - 1)) H
theorem ok_bit_otherwise (T : Txt K mg) : FnOk P w K mg base CX0 1 T.bit_otherwise.f T.bit_otherwise.fd ["header", "pattern"] (spBitOther) := by
  refine T.bit_otherwise.fn.ok sc_bit_otherwise (fun vs H Q E h => ?_) (fun cdv A outer s H vs Q E hr h => ⟨_, (pss_cons (ps_set (i := 2) sc_bit_otherwise.nd rfl (Or.inl rfl) (pe_op op_and (pe_op op_xor (pv 0) (pe_ix ix_tup (pv 1) pe_int (fun _ _ => rfl))) (pe_ix ix_tup (pv 1) pe_int (fun _ _ => rfl))))
      (pss_cons (ps_set (i := 3) sc_bit_otherwise.nd rfl (Or.inl rfl) (pe_un un_neg pe_int))
      (pss_cons (ps_while PassesOwn.never (pt_cmpR op_gt (pv 2) pe_int (nomark _)) (pss_cons (ps_set (i := 2) sc_bit_otherwise.nd rfl (Or.inl rfl) (pe_op op_shr (pv 2) pe_int))
      (pss_one (ps_aug (i := 3) sc_bit_otherwise.nd rfl (Or.inl rfl) pe_int ip_add))))
      (pss_one (ps_ret (pv 3)))))), ?_⟩)
  · obtain ⟨h, a, p, rfl, _⟩ := h
    rfl
  · obtain ⟨h, a, p, rfl, hp, k⟩ := h
    refine ⟨_, rfl, _, rfl, a, _, _, _, rfl, rfl, SqT.of hp, rfl, _, _, rfl, rfl, _, rfl, a, _, _, _, rfl, rfl, SqT.of hp, rfl, _, _, rfl, rfl, _, rfl, ?_⟩
    have eL : Builtin.bitAnd (Builtin.bitXor (h : Nat) (p.bits : Nat)) (p.told : Nat) = (((h ^^^ p.bits) &&& p.told : Nat) : Int) := by rw [bxor, band]
    generalize (h ^^^ p.bits) &&& p.told = L at k eL
    refine ⟨fun m σ H' => ∃ (n : Nat) (f : Int), m = n ∧ σ = [some (.int (h : Nat)), some (.ref a), some (.int (n : Nat)), some (.int f)] ∧ H' = H ∧ f + (hb n : Nat) = (hb L : Nat) - 1, ⟨L, L, -1, rfl, (by rw [← eL]; rfl), rfl, by omega⟩, ?_⟩
    rintro m σ H' ⟨n, f, rfl, rfl, rfl, inv⟩
    refine ⟨_, rfl, _, _, rfl, rfl, _, rfl, ?_⟩
    by_cases c : 0 < m
    · refine ifT (decide_eq_true (by omega)) ⟨fun σ2 H2 => ∃ (n : Nat) (f : Int), n < m ∧ σ2 = [some (.int (h : Nat)), some (.ref a), some (.int (n : Nat)), some (.int f)] ∧ H2 = H' ∧ f + (hb n : Nat) = (hb L : Nat) - 1, ?_, ?_⟩
      · rintro σ2 H2 ⟨n, f, h1, h2, h3, h4⟩
        exact ⟨n, h1, n, f, rfl, h2, h3, h4⟩
      · refine ⟨_, rfl, _, _, rfl, rfl, (by omega), _, rfl, _, _, rfl, rfl, m / 2, f + 1, by omega, ?_, rfl, ?_⟩
        · have e : ((m : Nat) : Int) / 2 ^ (1 : Int).toNat = ((m / 2 : Nat) : Int) := by
            show ((m : Nat) : Int) / 2 = _
            omega
          show [some (V.int (h : Nat)), some (V.ref a), some (V.int (((m : Nat) : Int) / 2 ^ (1 : Int).toNat)), some (V.int (f + 1))] = _
          rw [e]
        · rw [hb_half c] at inv
          omega
    · refine ifF (decide_eq_false (by omega)) ⟨_, rfl, ?_⟩
      have : m = 0 := by omega
      subst this
      have e : hb 0 = 0 := rfl
      rw [e] at inv
      rw [show f = (hb L : Nat) - 1 by omega]
      exact k
end
end Rt

/-! made_one, spare_rules, first_pair, step, made_small -/
namespace Rt
open PySem PySem.Spec PyProof.Rows L2
open VapktBase (Rule Action Table Rewrite)
section
variable {P : Program} {w : World} {K : PySem.W.Frag} {mg : Str → Option Value} {base : Heap}
def spMadeOne : Sp := fun vs H Q _ => ∃ (a : Addr) (t : Table) (i j n : Nat), vs = [.ref a, .int (i : Nat), .int (j : Nat)] ∧ TabAt H a t ∧ WFT n t ∧ i < j ∧ j < t.length ∧
  (Vapktb.joined t i j = none → ∀ H', Same H H' → Q .non H') ∧ (∀ u, Vapktb.joined t i j = some u → ∀ H' p, H p = none → Same H H' → TabAt H' p u → Q (.ref p) H')
theorem ok_made_one (T : Txt K mg) : FnOk P w K mg base CX0 2 T.made_one.f T.made_one.fd ["table", "one", "other"] (spMadeOne) := by
  refine T.made_one.fn.ok sc_made_one (fun vs H Q E h => ?_) (fun cdv A outer s H vs Q E hr h => ⟨_, (pss_cons (ps_set (i := 3) sc_made_one.nd rfl (Or.inl rfl) (pe_ix ix_list (pv 0) (pv 1) (fun _ _ => rfl)))
      (pss_cons (ps_set (i := 4) sc_made_one.nd rfl (Or.inl rfl) (pe_ix ix_list (pv 0) (pv 2) (fun _ _ => rfl)))
      (pss_cons (ps_set (i := 5) sc_made_one.nd rfl (Or.inl rfl) (pe_op op_xor (pe_ix ix_tup (pe_ix ix_tup (pv 3) pe_int (fun _ _ => rfl)) pe_int (fun _ _ => rfl)) (pe_ix ix_tup (pe_ix ix_tup (pv 4) pe_int (fun _ _ => rfl)) pe_int (fun _ _ => rfl))))
      (pss_cons (ps_if (PW.pt (pw_or (pt_cmpR (op_neD hr.units) (pe_ix ix_tup (pv 3) pe_int (fun _ _ => rfl)) (pe_ix ix_tup (pv 4) pe_int (fun _ _ => rfl)) (nomark _)) (pw_or (pt_cmpR op_ne (pe_ix ix_tup (pe_ix ix_tup (pv 3) pe_int (fun _ _ => rfl)) pe_int (fun _ _ => rfl)) (pe_ix ix_tup (pe_ix ix_tup (pv 4) pe_int (fun _ _ => rfl)) pe_int (fun _ _ => rfl)) (nomark _)) (pw_or1 (pt_not (pt_val (pe_call (ok_is_one_bit T) (hr.mono (by decide)) rfl T.is_one_bit.gl T.is_one_bit.kp T.is_one_bit.bd .nil pass0 (pa_cons (pv 5) pa_nil)))))))) (pss_one (ps_ret pe_non)) pss_nil)
      (pss_cons (ps_set (i := 6) sc_made_one.nd rfl (Or.inl rfl) (pe_tup (pa_cons (pe_op op_sub (pe_ix ix_tup (pe_ix ix_tup (pv 3) pe_int (fun _ _ => rfl)) pe_int (fun _ _ => rfl)) (pv 5)) (pa_cons (pe_op op_and (pe_ix ix_tup (pe_ix ix_tup (pv 3) pe_int (fun _ _ => rfl)) pe_int (fun _ _ => rfl)) (pe_un un_inv (pv 5))) pa_nil))))
      (pss_one (ps_ret (pe_op op_cat (pe_op op_cat (pe_slice sl_list (pv 0) po_none (po_some (pv 1))) (pe_lst (pa_cons (pe_tup (pa_cons (pv 6) (pa_cons (pe_ix ix_tup (pv 3) pe_int (fun _ _ => rfl)) pa_nil))) pa_nil))) (pe_slice sl_list (pe_call (ok_without T) (hr.mono (by decide)) rfl T.without.gl T.without.kp T.without.bd .nil pass0 (pa_cons (pv 0) (pa_cons (pv 2) pa_nil))) (po_some (pe_op op_add (pv 1) pe_int)) po_none))))))))), ?_⟩)
  · obtain ⟨a, t, i, j, n, rfl, _⟩ := h
    rfl
  · obtain ⟨a, t, i, j, n, rfl, htab, wf, hij, hj, kN, kS⟩ := h
    obtain ⟨as, ha, hp⟩ := htab
    have hl := Paired.len hp
    have w8 := wf.1
    have e1 := List.getElem?_eq_getElem (show i < t.length by omega)
    have e2 := List.getElem?_eq_getElem hj
    obtain ⟨a1, ha1, r1⟩ := Paired.at hp e1
    obtain ⟨a2, ha2, r2⟩ := Paired.at hp e2
    rw [joined_eq wf hij hj e1 e2] at kN kS
    generalize t[i] = x at *
    generalize t[j] = y at *
    have r1' := r1
    obtain ⟨b1, c1, f1, f2, f3⟩ := r1
    obtain ⟨b2, c2, g1, g2, g3⟩ := r2
    refine ⟨_, rfl, _, rfl, a, _, _, _, rfl, rfl, SqL.of ha, atI_nat (refs_at ha1), ?_⟩
    refine ⟨_, rfl, _, rfl, a, _, _, _, rfl, rfl, SqL.of ha, atI_nat (refs_at ha2), ?_⟩
    refine ⟨_, rfl, a1, _, _, _, rfl, rfl, SqT.of f1, rfl, b1, _, _, _, rfl, rfl, SqT.of f2, rfl, _, rfl, a2, _, _, _, rfl, rfl, SqT.of g1, rfl, b2, _, _, _, rfl, rfl, SqT.of g2, rfl, _, _, rfl, rfl, ?_⟩
    have eB : Builtin.bitXor (x.pattern.bits : Nat) (y.pattern.bits : Nat) = ((x.pattern.bits ^^^ y.pattern.bits : Nat) : Int) := bxor _ _
    refine ⟨_, rfl, a1, _, _, _, rfl, rfl, SqT.of f1, rfl, _, rfl, a2, _, _, _, rfl, rfl, SqT.of g1, rfl, _, _, dp_act f3, dp_act g3, sh_act _, sh_act _, _, rfl, ?_⟩
    rw [eqv_act]
    by_cases d1 : x.action = y.action
    · refine ifF (by rw [decide_eq_true d1]; rfl) ?_
      refine ⟨_, rfl, a1, _, _, _, rfl, rfl, SqT.of f1, rfl, b1, _, _, _, rfl, rfl, SqT.of f2, rfl, _, rfl, a2, _, _, _, rfl, rfl, SqT.of g1, rfl, b2, _, _, _, rfl, rfl, SqT.of g2, rfl, rfl, _, rfl, ?_⟩
      by_cases d2 : x.pattern.told = y.pattern.told
      · refine ifF (by rw [decide_eq_true (by rw [d2])]; rfl) ?_
        refine ⟨_, rfl, x.pattern.bits ^^^ y.pattern.bits, congrArg (fun z => [V.int z]) eB, _, rfl, ?_⟩
        cases d3 : Vapktb.isOneBit (x.pattern.bits ^^^ y.pattern.bits) with
        | false =>
          refine ifT rfl (kN ?_ H (Same.refl H))
          rw [if_neg fun z => by rw [z.2.2] at d3; cases d3]
        | true =>
          have kS := kS _ (if_pos ⟨d1, d2, d3⟩)
          refine ifF rfl ?_
          have xu := xor_under (wf.2 x (List.mem_of_getElem? e1)).1.2.2 (d2 ▸ (wf.2 y (List.mem_of_getElem? e2)).1.2.2)
          have xle : x.pattern.bits ^^^ y.pattern.bits ≤ x.pattern.told := by rw [← xu]; exact Nat.and_le_right
          refine ⟨_, rfl, a1, _, _, _, rfl, rfl, SqT.of f1, rfl, b1, _, _, _, rfl, rfl, SqT.of f2, rfl, _, rfl, _, _, rfl, rfl, _, rfl, a1, _, _, _, rfl, rfl, SqT.of f1, rfl, b1, _, _, _, rfl, rfl, SqT.of f2, rfl, _, rfl, _, rfl, _, _, rfl, rfl, (by show 2 ≤ sizeLine; decide), fun p1 n1 => ?_⟩
          have eP : (HO.tup [V.int ((x.pattern.told : Nat) - Builtin.bitXor (x.pattern.bits : Nat) (y.pattern.bits : Nat)), V.int (Builtin.bitAnd (x.pattern.bits : Nat) (Builtin.bitNot (Builtin.bitXor (x.pattern.bits : Nat) (y.pattern.bits : Nat))))]) =
              .tup [.int ((uniteP x.pattern y.pattern).told : Nat), .int ((uniteP x.pattern y.pattern).bits : Nat)] := by
            rw [eB, band_not]
            refine congrArg (fun z => HO.tup [V.int z, _]) ?_
            show _ = ((x.pattern.told - (x.pattern.bits ^^^ y.pattern.bits) : Nat) : Int)
            omega
          have s1 := snew (o := HO.tup [V.int ((x.pattern.told : Nat) - Builtin.bitXor (x.pattern.bits : Nat) (y.pattern.bits : Nat)), V.int (Builtin.bitAnd (x.pattern.bits : Nat) (Builtin.bitNot (Builtin.bitXor (x.pattern.bits : Nat) (y.pattern.bits : Nat))))]) n1
          have hP : PatAt (upd H p1 (HO.tup [V.int ((x.pattern.told : Nat) - Builtin.bitXor (x.pattern.bits : Nat) (y.pattern.bits : Nat)), V.int (Builtin.bitAnd (x.pattern.bits : Nat) (Builtin.bitNot (Builtin.bitXor (x.pattern.bits : Nat) (y.pattern.bits : Nat))))])) p1 (uniteP x.pattern y.pattern) := by
            show upd H p1 _ p1 = _
            rw [upd_same, eP]
          generalize (upd H p1 (HO.tup [V.int ((x.pattern.told : Nat) - Builtin.bitXor (x.pattern.bits : Nat) (y.pattern.bits : Nat)), V.int (Builtin.bitAnd (x.pattern.bits : Nat) (Builtin.bitNot (Builtin.bitXor (x.pattern.bits : Nat) (y.pattern.bits : Nat))))])) = H1 at s1 hP
          refine ⟨_, rfl, _, rfl, _, rfl, a, _, rfl, SqL.of (s1 _ _ ha), fun p2 n2 => ?_⟩
          rw [cutR_to]
          have s2 := snew (o := .lst ((as.take i).map V.ref)) n2
          have s12 := s1.trans s2
          refine ⟨_, rfl, _, rfl, a1, _, _, _, rfl, rfl, SqT.of (s12 _ _ f1), rfl, (by show 2 ≤ sizeLine; decide), fun p3 n3 => ?_⟩
          have s3 := snew (o := .tup [.ref p1, .ref c1]) n3
          refine ⟨(by show 1 ≤ sizeLine; decide), fun p4 n4 => ?_⟩
          have s4 := snew (o := .lst [.ref p3]) n4
          have l1 : ((as.take i).map V.ref).length ≤ 8 := by rw [List.length_map, List.length_take]; omega
          refine ⟨p2, p4, _, _, rfl, rfl, s4 _ _ (s3 _ _ upd_same), upd_same, size1000' (by show _ + 1 ≤ _; omega), fun p5 n5 => ?_⟩
          have s5 := snew (o := .lst ((as.take i).map V.ref ++ [.ref p3])) n5
          have s15 := ((s12.trans s3).trans s4).trans s5
          have hR3 : RuleAt (upd (upd (upd (upd H1 p2 (.lst ((as.take i).map V.ref))) p3 (.tup [.ref p1, .ref c1])) p4 (.lst [.ref p3])) p5 (.lst ((as.take i).map V.ref ++ [.ref p3]))) p3 ⟨uniteP x.pattern y.pattern, x.action⟩ :=
            ⟨p1, c1, s5 _ _ (s4 _ _ upd_same), ((hP.same s2).same (s3.trans (s4.trans s5))), f3.same s15⟩
          refine ⟨_, rfl, _, rfl, a, t, j, rfl, TabAt.same s15 ⟨as, ha, hp⟩, by omega, fun H6 q _ s6 hq => ?_⟩
          obtain ⟨qs, hq1, hq2⟩ := hq
          have lq := Paired.len hq2
          rw [List.length_eraseIdx, if_pos hj] at lq
          refine ⟨_, rfl, _, _, rfl, rfl, _, rfl, q, _, rfl, SqL.of hq1, fun p7 n7 => ?_⟩
          rw [nsucc, cutR_from]
          have s7 := snew (o := .lst ((qs.drop (i + 1)).map V.ref)) n7
          refine ⟨p5, p7, _, _, rfl, rfl, s7 _ _ (s6 _ _ upd_same), upd_same, size1000' ?_, fun p8 n8 => kS _ p8 ((s15.trans (s6.trans s7)).free n8) ((s15.trans (s6.trans s7)).trans (snew n8)) ?_⟩
          · rw [List.length_append, List.length_map (as := qs.drop (i + 1)), List.length_drop]
            show _ + 1 + _ ≤ _
            omega
          · refine ⟨as.take i ++ ([p3] ++ qs.drop (i + 1)), by rw [upd_same, List.map_append, List.map_append, List.append_assoc]; rfl, ?_⟩
            have s8 := snew (o := .lst ((as.take i).map V.ref ++ [.ref p3] ++ (qs.drop (i + 1)).map V.ref)) n8
            have sa := (s15.trans (s6.trans s7)).trans s8
            exact Paired.app (Paired.mapP (Paired.take i hp) fun _ _ q => RuleAt.same sa q) (Paired.app (.cons (RuleAt.same ((s6.trans s7).trans s8) hR3) .nil) (Paired.mapP (Paired.drop (i + 1) hq2) fun _ _ q => RuleAt.same (s7.trans s8) q))
      · refine ifT (by rw [decide_eq_false fun z => d2 (by have := V.int.inj z; omega)]; rfl) (kN ?_ H (Same.refl H))
        rw [if_neg fun z => d2 z.2.1]
    · refine ifT (by rw [decide_eq_false d1]; rfl) (kN ?_ H (Same.refl H))
      rw [if_neg fun z => d1 z.1]
def spSpare : Sp := fun vs H Q _ => ∃ (a : Addr) (t : Table) (n : Nat), vs = [.ref a, .int (n : Nat)] ∧ TabAt H a t ∧ t.length ≤ 8 ∧ n ≤ 7 ∧ ∀ H' p, Same H H' → IntsAt H' p (natI (Vapktb.spare n t)) → Q (.ref p) H'
theorem ok_spare_rules (T : Txt K mg) : FnOk P w K mg base CX0 5 T.spare_rules.f T.spare_rules.fd ["table", "bits"] (spSpare) := by
  refine T.spare_rules.fn.ok sc_spare_rules (fun vs H Q E h => ?_) (fun cdv A outer s H vs Q E hr h => ⟨_, (pss_cons (ps_set (i := 2) sc_spare_rules.nd rfl (Or.inr rfl) (pe_call (ok_outcomes T) (hr.mono (by decide)) rfl T.outcomes.gl T.outcomes.kp T.outcomes.bd .nil pass0 (pa_cons (pv 0) (pa_cons (pv 1) pa_nil))))
      (pss_one (ps_ret (pe_lc (own := [("number", 3)]) rfl sc_spare_rules.nd (pi_range1 rfl T.zrange (pa_cons (pe_callB call_len_seq (by rfl) T.zlen PySem.boot_len (pa_cons (pv 0) pa_nil)) pa_nil)) (blkOk_by (own := [("number", 3)]) (N := ["table", "bits", "whole", "number"]) (sc := defScope s_spare_rules) (by decide +kernel)) (fun _ _ _ _ _ => (pg_name (i := 3) sc_spare_rules.nd rfl (Or.inl rfl))) (fun _ _ _ _ _ => pts_one (pt_cmpR (r := rEqD K) (op_eqD hr.units) (pe_call (ok_outcomes T) (hr.mono (by decide)) rfl T.outcomes.gl T.outcomes.kp T.outcomes.bd .nil pass0 (pa_cons (pe_call (ok_without T) (hr.mono (by decide)) rfl T.without.gl T.without.kp T.without.bd .nil pass0 (pa_cons (pv 0) (pa_cons (pv 3) pa_nil))) (pa_cons (pv 1) pa_nil))) (pv 2) (nomark _))) (fun _ _ _ _ _ => (pv 3)))))), ?_⟩)
  · obtain ⟨a, t, n, rfl, _⟩ := h
    rfl
  · obtain ⟨a, t, n, rfl, ht, h8, hn, k⟩ := h
    refine ⟨_, rfl, _, rfl, a, t, n, rfl, ht, hn, fun H1 q s1 hq => ?_⟩
    obtain ⟨as, ha, hp⟩ := ht
    refine ⟨_, rfl, a, _, rfl, .inl (SqL.of (s1 _ _ ha)), ?_⟩
    rw [List.length_map, Paired.len hp]
    refine ⟨_, rfl, by omega, by omega, fun D hD => ?_⟩
    rw [Int.toNat_natCast]
    refine lc_range (lo := 0) (n := t.length) (fun i H' => GrownI H1 H' D (natI ((List.range i).filter fun i => Vapktb.sameTables n t (t.eraseIdx i)))) (GrownI.start (Same.refl H1) hD) (fun i H' hi g => ?_) (fun H' g => k H' D (s1.trans g.same) g.lst)
    have sx := s1.trans g.same
    refine ⟨rfl, _, rfl, _, rfl, a, t, i, congrArg (fun z => [V.ref a, V.int z]) (zadd i), TabAt.same sx ⟨as, ha, hp⟩, by omega, fun H2 u _ s2 hu => ?_⟩
    refine ⟨_, rfl, u, t.eraseIdx i, n, rfl, hu, hn, fun H3 v s3 hv => ?_⟩
    have s23 := s2.trans s3
    refine ⟨_, rfl, _, _, dp_outs hv, dp_outs (LstAt.imp (fun _ _ z => OutAt.same (g.same.trans s23) z) (fun _ e => (g.same.trans s23) _ _ e) hq), sh_outs _, sh_outs _, _, rfl, ?_⟩
    rw [eqv_outs, same_eq, filter_snoc]
    cases e : Vapktb.sameTables n t (t.eraseIdx i) with
    | true =>
      refine ifT rfl ⟨_, rfl, ?_⟩
      obtain ⟨l, h1, h2, h3⟩ := g.more (z := (i : Nat)) s23
      refine ⟨l, h1, size1000 ?_, ?_⟩
      · have := List.length_filter_le (fun i => Vapktb.sameTables n t (t.eraseIdx i)) (List.range i)
        rw [List.length_range] at this
        rw [h2]; unfold natI; rw [List.length_map]; omega
      · rw [if_pos rfl, natI_snoc, zadd]
        exact h3
    | false =>
      refine ifF rfl ?_
      rw [if_neg Bool.false_ne_true, List.append_nil]
      exact g.on s23
end
end Rt

/-! first_pair, step, made_small -/
namespace Rt
open PySem PySem.Spec PyProof.Rows L2
open VapktBase (Rule Action Table Rewrite)
section
variable {P : Program} {w : World} {K : PySem.W.Frag} {mg : Str → Option Value} {base : Heap}
def spFirst : Sp := fun vs H Q _ => ∃ (a : Addr) (t : Table) (n : Nat), vs = [.ref a, .int (n : Nat)] ∧ TabAt H a t ∧ WFT n t ∧ n ≤ 7 ∧ (firstPair n t = none → ∀ H', Same H H' → Q .non H') ∧
  (∀ (i j : Nat) (u : Table), firstPair n t = some (i, j, u) → ∀ H' p q, H q = none → Same H H' → H' p = some (.tup [.int (i : Nat), .int (j : Nat), .ref q]) → TabAt H' q u → Q (.ref p) H')
theorem oneAt (i : Nat) : (0 : Int) + (i : Nat) + 1 = ((i + 1 : Nat) : Int) := by omega
theorem ok_first_pair (T : Txt K mg) : FnOk P w K mg base CX0 5 T.first_pair.f T.first_pair.fd ["table", "bits"] (spFirst) := by
  refine T.first_pair.fn.ok sc_first_pair (fun vs H Q E h => ?_) (fun cdv A outer s H vs Q E hr h => ⟨_, (pss_cons (ps_set (i := 2) sc_first_pair.nd rfl (Or.inl rfl) (pe_call (ok_outcomes T) (hr.mono (by decide)) rfl T.outcomes.gl T.outcomes.kp T.outcomes.bd .nil pass0 (pa_cons (pv 0) (pa_cons (pv 1) pa_nil))))
      (pss_cons (ps_for PassesOwn.never rfl (pi_range1 rfl T.zrange (pa_cons (pe_callB call_len_seq (by rfl) T.zlen PySem.boot_len (pa_cons (pv 0) pa_nil)) pa_nil)) (pg_name (i := 3) sc_first_pair.nd rfl (Or.inl rfl)) (pss_one (ps_for PassesOwn.never rfl (pi_range2 rfl T.zrange (pa_cons (pe_op op_add (pv 3) pe_int) (pa_cons (pe_callB call_len_seq (by rfl) T.zlen PySem.boot_len (pa_cons (pv 0) pa_nil)) pa_nil))) (pg_name (i := 4) sc_first_pair.nd rfl (Or.inl rfl)) (pss_cons (ps_set (i := 5) sc_first_pair.nd rfl (Or.inl rfl) (pe_call (ok_made_one T) (hr.mono (by decide)) rfl T.made_one.gl T.made_one.kp T.made_one.bd .nil pass0 (pa_cons (pv 0) (pa_cons (pv 3) (pa_cons (pv 4) pa_nil)))))
      (pss_one (ps_if (PW.pt (pw_and (pt_cmpR op_notN (pv 5) pe_non (nomark _)) (pw_and1 (pt_cmpR (op_eqD hr.units) (pe_call (ok_outcomes T) (hr.mono (by decide)) rfl T.outcomes.gl T.outcomes.kp T.outcomes.bd .nil pass0 (pa_cons (pv 5) (pa_cons (pv 1) pa_nil))) (pv 2) (nomark _))))) (pss_one (ps_ret (pe_tup (pa_cons (pv 3) (pa_cons (pv 4) (pa_cons (pv 5) pa_nil)))))) pss_nil))))))
      (pss_one (ps_ret pe_non)))), ?_⟩)
  · obtain ⟨a, t, n, rfl, _⟩ := h
    rfl
  · obtain ⟨a, t, n, rfl, ht, wf, hn, kN, kS⟩ := h
    refine ⟨_, rfl, _, rfl, a, t, n, rfl, ht, hn, fun H1 q s1 hq => ?_⟩
    obtain ⟨as, ha, hp⟩ := ht
    have w8 := wf.1
    have hl := Paired.len hp
    refine ⟨_, rfl, a, _, rfl, .inl (SqL.of (s1 _ _ ha)), ?_⟩
    rw [List.length_map, hl]
    refine ⟨_, rfl, by omega, by omega, ?_⟩
    rw [Int.toNat_natCast]
    refine for_range (lo := 0) (n := t.length) (fun i σ H' => (∃ v3 v4 v5 : Option V, σ = [some (.ref a), some (.int (n : Nat)), some (.ref q), v3, v4, v5]) ∧ Same H1 H' ∧ ∀ i', i' < i → ∀ j, i' < j → j < t.length → tryPair n t i' j = none)
      ⟨⟨none, none, none, rfl⟩, Same.refl H1, fun _ z => absurd z (Nat.not_lt_zero _)⟩ ?_ ?_
    · rintro i σ H2 hi ⟨⟨v3, v4, v5, rfl⟩, s2, b⟩
      refine ⟨_, rfl, _, _, rfl, rfl, _, rfl, a, _, rfl, .inl (SqL.of (s2 _ _ (s1 _ _ ha))), ?_⟩
      rw [List.length_map, hl]
      refine ⟨_, _, rfl, ⟨by omega, by omega, by omega, by omega⟩, ?_⟩
      refine for_range (lo := 0 + (i : Nat) + 1) (n := _) (fun k σ H' => (∃ v4 v5 : Option V, σ = [some (.ref a), some (.int (n : Nat)), some (.ref q), some (.int (0 + (i : Nat))), v4, v5]) ∧ Same H1 H' ∧ ∀ j, i < j → j < i + 1 + k → tryPair n t i j = none)
        ⟨⟨v4, v5, rfl⟩, s2, fun j h1 h2 => by omega⟩ ?_ ?_
      · rintro k σ H3 hk ⟨⟨v4, v5, rfl⟩, s3, b3⟩
        have hj : i + 1 + k < t.length := by omega
        have sH := s1.trans s3
        have eI : (0 : Int) + (i : Nat) = ((i : Nat) : Int) := zadd i
        have eJ : (0 : Int) + (i : Nat) + 1 + (k : Nat) = ((i + 1 + k : Nat) : Int) := by omega
        refine ⟨_, rfl, _, rfl, _, rfl, a, t, i, i + 1 + k, n, ?_, TabAt.same sH ⟨as, ha, hp⟩, wf, by omega, hj, fun hN H4 s4 => ?_, fun u hu H4 p f4 s4 hp4 => ?_⟩
        · show [V.ref a, V.int (0 + (i : Nat)), V.int (0 + (i : Nat) + 1 + (k : Nat))] = _
          rw [eJ, eI]
        · refine ⟨_, rfl, rfl, _, rfl, ?_⟩
          refine ifF rfl ⟨⟨_, _, rfl⟩, s3.trans s4, fun j h1 h2 => ?_⟩
          rcases Nat.lt_succ_iff_lt_or_eq.mp (show j < i + 1 + k + 1 by omega) with z | z
          · exact b3 j h1 z
          · subst z
            unfold tryPair
            rw [hN]
            rfl
        · refine ⟨_, rfl, rfl, _, rfl, ?_⟩
          refine ifT rfl ⟨_, rfl, _, rfl, p, u, n, rfl, hp4, hn, fun H5 v s5 hv => ?_⟩
          have s45 := s3.trans (s4.trans s5)
          refine ⟨_, rfl, _, _, dp_outs hv, dp_outs (LstAt.imp (fun _ _ z => OutAt.same s45 z) (fun _ e => s45 _ _ e) hq), sh_outs _, sh_outs _, _, rfl, ?_⟩
          rw [eqv_outs, same_eq]
          have eT : tryPair n t i (i + 1 + k) = if Vapktb.sameTables n t u = true then some (i, i + 1 + k, u) else none := by
            unfold tryPair
            rw [hu]
            rfl
          cases e : Vapktb.sameTables n t u with
          | true =>
            rw [e, if_pos rfl] at eT
            have eF : firstPair n t = some (i, i + 1 + k, u) := by
              unfold firstPair
              refine fs_range_some (i := i) ?_ (fun i' hi' => ?_) _ hi
              · refine fs_range_some (i := i + 1 + k) ?_ (fun j hj' => ?_) _ hj
                · rw [if_pos (by omega), eT]
                · by_cases c : i < j
                  · rw [if_pos c]; exact b3 j c hj'
                  · rw [if_neg c]
              · refine fs_range_none fun j hj' => ?_
                by_cases c : i' < j
                · rw [if_pos c]; exact b i' hi' j c hj'
                · rw [if_neg c]
            refine ifT rfl ⟨_, rfl, _, rfl, _, rfl, (by show 3 ≤ sizeLine; decide), fun r nr => ?_⟩
            refine kS i (i + 1 + k) u eF _ r p (sH.free f4) (((s1.trans s45)).trans (snew nr)) ?_ (TabAt.same (s5.trans (snew nr)) hp4)
            refine upd_same.trans (congrArg (fun z => some (HO.tup z)) ?_)
            show [V.int (0 + (i : Nat)), V.int (0 + (i : Nat) + 1 + (k : Nat)), V.ref p] = _
            rw [eJ, eI]
          | false =>
            rw [e, if_neg Bool.false_ne_true] at eT
            refine ifF rfl ⟨⟨_, _, rfl⟩, s45, fun j h1 h2 => ?_⟩
            rcases Nat.lt_succ_iff_lt_or_eq.mp (show j < i + 1 + k + 1 by omega) with z | z
            · exact b3 j h1 z
            · subst z
              exact eT
      · rintro σ H3 ⟨⟨v4, v5, rfl⟩, s3, b3⟩
        refine ⟨⟨_, _, _, rfl⟩, s3, fun i' hi' j h1 h2 => ?_⟩
        rcases Nat.lt_succ_iff_lt_or_eq.mp hi' with z | z
        · exact b i' z j h1 h2
        · subst z
          exact b3 j h1 (by omega)
    · rintro σ H3 ⟨⟨v3, v4, v5, rfl⟩, s3, b⟩
      refine kN ?_ H3 (s1.trans s3)
      unfold firstPair
      refine fs_range_none fun i hi => fs_range_none fun j hj => ?_
      by_cases c : i < j
      · rw [if_pos c]; exact b i hi j c hj
      · rw [if_neg c]
/-- a step as the program tells it -/
def StepAt (H : Hp) (p c : Addr) (x : Vapktb.Less × Table) : Prop := ∃ b, H p = some (.tup [.ref b, .ref c]) ∧ IntsAt H b (Vapktb.lessTold x.1) ∧ TabAt H c x.2
def StepRes (n : Nat) (t : Table) (H H' : Hp) (v : V) : Prop := (Vapktb.firstLess n t = none ∧ v = .non) ∨
  ∃ x p c b, Vapktb.firstLess n t = some x ∧ v = .ref p ∧ H c = none ∧ H b = none ∧ H' p = some (.tup [.ref b, .ref c]) ∧ IntsAt H' b (Vapktb.lessTold x.1) ∧ TabAt H' c x.2
def spStep : Sp := fun vs H Q _ => ∃ (a : Addr) (t : Table) (n : Nat), vs = [.ref a, .int (n : Nat)] ∧ TabAt H a t ∧ WFT n t ∧ n ≤ 7 ∧ ∀ H' v, Same H H' → StepRes n t H H' v → Q v H'
theorem ok_step (T : Txt K mg) : FnOk P w K mg base CX0 6 T.step.f T.step.fd ["table", "bits"] (spStep) := by
  refine T.step.fn.ok sc_step (fun vs H Q E h => ?_) (fun cdv A outer s H vs Q E hr h => ⟨_, (pss_cons (ps_set (i := 2) sc_step.nd rfl (Or.inl rfl) (pe_call (ok_spare_rules T) (hr.mono (by decide)) rfl T.spare_rules.gl T.spare_rules.kp T.spare_rules.bd .nil pass0 (pa_cons (pv 0) (pa_cons (pv 1) pa_nil))))
      (pss_cons (ps_if (pt_cmpR (op_neD hr.units) (pv 2) (pe_lst pa_nil) (nomark _)) (pss_one (ps_ret (pe_tup (pa_cons (pe_lst (pa_cons pe_int (pa_cons (pe_ix ix_list (pv 2) pe_int (fun _ _ => rfl)) pa_nil))) (pa_cons (pe_call (ok_without T) (hr.mono (by decide)) rfl T.without.gl T.without.kp T.without.bd .nil pass0 (pa_cons (pv 0) (pa_cons (pe_ix ix_list (pv 2) pe_int (fun _ _ => rfl)) pa_nil))) pa_nil))))) pss_nil)
      (pss_cons (ps_set (i := 3) sc_step.nd rfl (Or.inl rfl) (pe_call (ok_first_pair T) (hr.mono (by decide)) rfl T.first_pair.gl T.first_pair.kp T.first_pair.bd .nil pass0 (pa_cons (pv 0) (pa_cons (pv 1) pa_nil))))
      (pss_cons (ps_if (pt_cmpR op_isN (pv 3) pe_non (nomark _)) (pss_one (ps_ret pe_non)) pss_nil)
      (pss_one (ps_ret (pe_tup (pa_cons (pe_lst (pa_cons pe_int (pa_cons (pe_ix ix_tup (pv 3) pe_int (fun _ _ => rfl)) (pa_cons (pe_ix ix_tup (pv 3) pe_int (fun _ _ => rfl)) pa_nil)))) (pa_cons (pe_ix ix_tup (pv 3) pe_int (fun _ _ => rfl)) pa_nil))))))))), ?_⟩)
  · obtain ⟨a, t, n, rfl, _⟩ := h
    rfl
  · obtain ⟨a, t, n, rfl, ht, wf, hn, kk⟩ := h
    have kN : Vapktb.firstLess n t = none → ∀ H', Same H H' → Q .non H' := fun e H' s => kk H' _ s (.inl ⟨e, rfl⟩)
    have kS : ∀ x, Vapktb.firstLess n t = some x → ∀ H' p c b, H c = none → H b = none → Same H H' → H' p = some (.tup [.ref b, .ref c]) → IntsAt H' b (Vapktb.lessTold x.1) → TabAt H' c x.2 → Q (.ref p) H' :=
      fun x e H' p c b h1 h2 s h3 h4 h5 => kk H' _ s (.inr ⟨x, p, c, b, e, rfl, h1, h2, h3, h4, h5⟩)
    rw [firstLess_eq] at kN kS
    refine ⟨_, rfl, _, rfl, a, t, n, rfl, ht, wf.1, hn, fun H1 D s1 hD => ?_⟩
    refine ⟨_, rfl, (by show 0 ≤ sizeLine; decide), fun p0 n0 => ?_⟩
    have s0 := snew (o := .lst []) n0
    refine ⟨_, _, dp_intlist (ns := natI (Vapktb.spare n t)) (SqL.of (s0 _ _ hD)), dp_intlist (ns := natI []) (SqL.of upd_same), sh_ints _, sh_ints _, _, rfl, ?_⟩
    rw [eqv_ints, natI_eq]
    cases e : Vapktb.spare n t with
    | nil =>
      refine ifF rfl ?_
      have st := s1.trans s0
      rw [e] at kN kS
      refine ⟨_, rfl, _, rfl, a, t, n, rfl, TabAt.same st ht, wf, hn, fun hN H2 s2 => ?_, fun i j u hS H2 p q fq s2 hp hq => ?_⟩
      · refine ⟨_, rfl, rfl, _, rfl, ?_⟩
        refine ifT rfl (kN ?_ H2 (st.trans s2))
        rw [hN]
        rfl
      · refine ⟨_, rfl, rfl, _, rfl, ?_⟩
        refine ifF rfl ⟨_, rfl, p, _, _, _, rfl, rfl, SqT.of hp, rfl, _, rfl, p, _, _, _, rfl, rfl, SqT.of hp, rfl, (by show 3 ≤ sizeLine; decide), fun b nb => ?_⟩
        have s3 := snew (o := .lst [.int 1, .int (i : Nat), .int (j : Nat)]) nb
        refine ⟨_, rfl, p, _, _, _, rfl, rfl, SqT.of (s3 _ _ hp), rfl, (by show 2 ≤ sizeLine; decide), fun r nr => ?_⟩
        have s4 := snew (o := .tup [.ref b, .ref q]) nr
        refine kS (.join i j, u) ?_ _ r q b (st.free fq) ((st.trans s2).free nb) (((st.trans s2).trans s3).trans s4) upd_same (s4 _ _ upd_same) (TabAt.same (s3.trans s4) hq)
        rw [hS]
        rfl
    | cons i rest =>
      refine ifT rfl ?_
      rw [e] at hD kS
      have hi : i < t.length := spare_lt (n := n) (by rw [e]; exact List.mem_cons_self)
      have hD' := s0 _ _ hD
      refine ⟨_, rfl, D, _, _, _, rfl, rfl, SqL.of hD', atI_nat (j := 0) rfl, (by show 2 ≤ sizeLine; decide), fun b nb => ?_⟩
      have s2 := snew (o := .lst [.int 0, .int (i : Nat)]) nb
      have st := s1.trans (s0.trans s2)
      refine ⟨_, rfl, _, rfl, D, _, _, _, rfl, rfl, SqL.of (s2 _ _ hD'), atI_nat (j := 0) rfl, a, t, i, rfl, TabAt.same st ht, Nat.le_trans wf.1 (by decide), fun H2 c fc s3 hc => ?_⟩
      refine ⟨(by show 2 ≤ sizeLine; decide), fun r nr => ?_⟩
      have s4 := snew (o := .tup [.ref b, .ref c]) nr
      exact kS (.out i, t.eraseIdx i) rfl _ r c b (st.free fc) ((s1.trans s0).free nb) ((st.trans s3).trans s4) upd_same (s4 _ _ (s3 _ _ upd_same)) (TabAt.same s4 hc)
def OneAt (n : Nat) (H0 H : Hp) (F : Addr) (u : Table) (v : V) : Prop := (Vapktb.firstLess n u = none ∧ v = .non) ∨
  ∃ x p c b, Vapktb.firstLess n u = some x ∧ v = .ref p ∧ c ≠ F ∧ H0 c = none ∧ H p = some (.tup [.ref b, .ref c]) ∧ IntsAt H b (Vapktb.lessTold x.1) ∧ TabAt H c x.2
theorem OneAt.of {n : Nat} {u : Table} {H0 H H' : Hp} {F : Addr} {o : HO} {v : V} (s : Same H0 H) (hF : H F = some o) (h : StepRes n u H H' v) : OneAt n H0 H' F u v := by
  rcases h with h | ⟨x, p, c, b, h1, h2, h3, h4, h5, h6, h7⟩
  · exact .inl h
  · exact .inr ⟨x, p, c, b, h1, h2, (fun z => by rw [z, hF] at h3; cases h3), s.free h3, h5, h6, h7⟩
theorem lessTold_len (x : Vapktb.Less) : (Vapktb.lessTold x).length ≤ 3 := by cases x <;> simp [Vapktb.lessTold]
theorem lessTolds_len (l : List Vapktb.Less) : (l.flatMap Vapktb.lessTold).length ≤ 3 * l.length := by
  induction l with
  | nil => simp
  | cons r t ih =>
    rw [List.flatMap_cons, List.length_append, List.length_cons]
    have := lessTold_len r
    omega
theorem TabAt.upd {H : Hp} {F c : Addr} {o : HO} {l : List V} {u : Table} (hF : H F = some (.lst l)) (ne : c ≠ F) (h : TabAt H c u) : TabAt (L2.upd H F o) c u :=
  LstAt.imp (fun a x q => rule_tups _ _ a x (stay_lst hF) q) (fun o e => by rw [upd_ne ne]; exact e) h
def spSmall : Sp := fun vs H Q _ => ∃ (a : Addr) (t : Table) (n : Nat), vs = [.ref a, .int (n : Nat)] ∧ TabAt H a t ∧ WFT n t ∧ n ≤ 7 ∧
  ∀ H' p b c, H b = none → (H c = none ∨ c = a) → Same H H' → H' p = some (.tup [.ref b, .ref c]) → IntsAt H' b (((Vapktb.small n t).1.length : Int) :: (Vapktb.small n t).1.flatMap Vapktb.lessTold) → TabAt H' c (Vapktb.small n t).2 → Q (.ref p) H'
def SmallInv (n : Nat) (t : Table) (H0 : Hp) (a F : Addr) (m : Nat) (σ : L2.St) (H' : Hp) : Prop := ∃ (u : Table) (dn : List Vapktb.Less) (ta : Addr) (v : V), u.length = m ∧
  σ = [some (.ref ta), some (.int (n : Nat)), some (.int (dn.length : Nat)), some (.ref F), some v] ∧ ta ≠ F ∧ (H0 ta = none ∨ ta = a) ∧ TabAt H' ta u ∧ WFT n u ∧
  Vapktb.small n t = (dn ++ (Vapktb.small n u).1, (Vapktb.small n u).2) ∧ GrownI H0 H' F ((dn.flatMap Vapktb.lessTold)) ∧ dn.length + u.length = t.length ∧ OneAt n H0 H' F u v
theorem ok_made_small (T : Txt K mg) : FnOk P w K mg base CX0 7 T.made_small.f T.made_small.fd ["table", "bits"] (spSmall) := by
  refine T.made_small.fn.ok sc_made_small (fun vs H Q E h => ?_) (fun cdv A outer s H vs Q E hr h => ⟨_, (pss_cons (ps_set (i := 2) sc_made_small.nd rfl (Or.inl rfl) pe_int)
      (pss_cons (ps_set (i := 3) sc_made_small.nd rfl (Or.inl rfl) (pe_lst pa_nil))
      (pss_cons (ps_set (i := 4) sc_made_small.nd rfl (Or.inl rfl) (pe_call (ok_step T) (hr.mono (by decide)) rfl T.step.gl T.step.kp T.step.bd .nil pass0 (pa_cons (pv 0) (pa_cons (pv 1) pa_nil))))
      (pss_cons (ps_while PassesOwn.never (pt_cmpR op_notN (pv 4) pe_non (nomark _)) (pss_cons (ps_aug (i := 2) sc_made_small.nd rfl (Or.inl rfl) pe_int ip_add)
      (pss_cons (ps_expr (pe_bm PySem.F.plainAttrs_list PySem.F.slot_list_extend PySem.F.type_list_extend mt_extend (pv 3) (pa_cons (pe_ix ix_tup (pv 4) pe_int (fun _ _ => rfl)) pa_nil)))
      (pss_cons (ps_set (i := 0) sc_made_small.nd rfl (Or.inl rfl) (pe_ix ix_tup (pv 4) pe_int (fun _ _ => rfl)))
      (pss_one (ps_set (i := 4) sc_made_small.nd rfl (Or.inl rfl) (pe_call (ok_step T) (hr.mono (by decide)) rfl T.step.gl T.step.kp T.step.bd .nil pass0 (pa_cons (pv 0) (pa_cons (pv 1) pa_nil)))))))))
      (pss_one (ps_ret (pe_tup (pa_cons (pe_op op_cat (pe_lst (pa_cons (pv 2) pa_nil)) (pv 3)) (pa_cons (pv 0) pa_nil))))))))), ?_⟩)
  · obtain ⟨a, t, n, rfl, _⟩ := h
    rfl
  · obtain ⟨a, t, n, rfl, ht, wf, hn, k⟩ := h
    have w8 := wf.1
    refine ⟨(by show 0 ≤ sizeLine; decide), fun F nF => ?_⟩
    have sF := snew (o := .lst []) nF
    have aF : a ≠ F := by
      obtain ⟨as, ha, _⟩ := ht
      exact ne_of_none ha nF
    refine ⟨_, rfl, _, rfl, a, t, n, rfl, TabAt.same sF ht, wf, hn, fun H1 v s1 hv => ?_⟩
    refine ⟨SmallInv n t H a F, ⟨t.length, t, [], a, v, rfl, rfl, aF, .inr rfl, TabAt.same (sF.trans s1) ht, wf, rfl, ⟨s1 _ _ upd_same, sF.trans s1, nF⟩, Nat.zero_add _, OneAt.of sF upd_same hv⟩, ?_⟩
    rintro m σ H2 ⟨u, dn, ta, v, rfl, rfl, taF, tn, hta, wfu, hsm, g, hlen, ho⟩
    rcases ho with ⟨hN, rfl⟩ | ⟨x, p, c, b, hS, rfl, cF, c0, hp, hb, hc⟩
    · refine ⟨_, rfl, rfl, _, rfl, ?_⟩
      refine ifF rfl ?_
      rw [less_step wfu, hN] at hsm
      have hsm : Vapktb.small n t = (dn, u) := by rw [hsm, List.append_nil]
      rw [hsm] at k
      refine ⟨_, rfl, (by show 1 ≤ sizeLine; decide), fun q nq => ?_⟩
      have s3 := snew (o := .lst [.int (dn.length : Nat)]) nq
      have ll := lessTolds_len dn
      refine ⟨_, rfl, q, F, _, _, rfl, rfl, upd_same, s3 _ _ g.lst, size1000' (by rw [List.length_map]; show 1 + _ ≤ _; omega), fun r nr => ?_⟩
      have s4 := snew (o := .lst ([.int (dn.length : Nat)] ++ (dn.flatMap Vapktb.lessTold).map V.int)) nr
      refine ⟨_, rfl, (by show 2 ≤ sizeLine; decide), fun z nz => ?_⟩
      have s5 := snew (o := .tup [.ref r, .ref ta]) nz
      exact k _ z r ta ((g.same.trans s3).free nr) tn (g.same.trans ((s3.trans s4).trans s5)) upd_same (s5 _ _ upd_same) (TabAt.same ((s3.trans s4).trans s5) hta)
    · refine ⟨_, rfl, rfl, _, rfl, ?_⟩
      obtain ⟨wfx, hlx⟩ := firstLess_wf wfu hS
      refine ifT rfl ⟨fun σ' H' => SmallInv n t H a F x.2.length σ' H', fun σ' H' z => ⟨x.2.length, by omega, z⟩, ?_⟩
      refine ⟨_, rfl, _, _, rfl, rfl, ?_⟩
      have ll := lessTolds_len dn
      have lx := lessTold_len x.1
      refine ⟨_, rfl, .inl ⟨rfl, _, SqL.of g.lst⟩, _, rfl, p, _, _, _, rfl, rfl, SqT.of hp, rfl, F, b, _, _, rfl, rfl, g.lst, hb, size1000' (by rw [List.length_map, List.length_map]; omega), ?_⟩
      have g2 := g.put (Same.refl H2) (Vapktb.lessTold x.1)
      generalize hH3 : L2.upd H2 F (.lst ((dn.flatMap Vapktb.lessTold).map V.int ++ (Vapktb.lessTold x.1).map V.int)) = H3 at g2 ⊢
      have hp3 : H3 p = some (.tup [.ref b, .ref c]) := by
        rw [← hH3, upd_ne (fun z => by rw [z, g.lst] at hp; cases hp)]
        exact hp
      have hc3 : TabAt H3 c x.2 := by
        rw [← hH3]
        exact TabAt.upd g.lst cF hc
      refine ⟨_, rfl, p, _, _, _, rfl, rfl, SqT.of hp3, rfl, _, rfl, _, rfl, c, x.2, n, rfl, hc3, wfx, hn, fun H4 v4 s4 hv4 => ?_⟩
      have eL : dn.flatMap Vapktb.lessTold ++ Vapktb.lessTold x.1 = (dn ++ [x.1]).flatMap Vapktb.lessTold := by rw [List.flatMap_append, List.flatMap_singleton]
      rw [eL] at g2
      refine ⟨x.2, dn ++ [x.1], c, v4, rfl, ?_, cF, .inl c0, TabAt.same s4 hc3, wfx, ?_, g2.on s4, ?_, OneAt.of g2.same g2.lst hv4⟩
      · rw [List.length_append]
        show [_, _, some (V.int ((dn.length : Nat) + 1)), _, _] = _
        rfl
      · rw [hsm, less_step wfu, hS, List.append_assoc]
        rfl
      · rw [List.length_append]
        show dn.length + 1 + _ = _
        omega
end
end Rt

/-! Plain laws, part 4: sets told -/
namespace Rt
open VapktBase (Rule Action Table Rewrite)
theorem setTold_of (w : Nat) (f : Nat → Bool) : Vapktb.setTold w (VapktBase.setOf w f) = setL w (hds w f) := by
  unfold Vapktb.setTold setL hds
  rw [form_of_list]
  rfl
theorem setTold_mem (w s : Nat) (hs : s < 2 ^ 2 ^ w) : Vapktb.setTold w s = setL w (VapktBase.members w s) := by
  unfold Vapktb.setTold setL
  rw [pats_members w s hs]
  rfl
theorem hds_congr {n : Nat} {f g : Nat → Bool} (h : ∀ x, x < 2 ^ n → f x = g x) : hds n f = hds n g := List.filter_congr fun x hx => h x (List.mem_range.mp hx)
theorem cnt_own {t : Table} {j : Nat} (hj : j < t.length) (h : Nat) : (cnt t h == j) = (VapktBase.ruleFor t h == some j) := by
  unfold cnt
  cases e : VapktBase.ruleFor t h with
  | none =>
    show (t.length == j) = _
    rw [beq_eq_false_iff_ne.mpr (by omega)]
    rfl
  | some i => rfl
theorem cnt_hole {t : Table} (h : Nat) : (cnt t h == t.length) = (VapktBase.ruleFor t h == none) := by
  unfold cnt
  cases e : VapktBase.ruleFor t h with
  | none =>
    show (t.length == t.length) = _
    rw [beq_self_eq_true]
    rfl
  | some i =>
    have := cnt_lt e
    show (i == t.length) = _
    rw [beq_eq_false_iff_ne.mpr (by omega)]
    rfl
theorem own_told {w : Nat} {t : Table} {j : Nat} (hj : j < t.length) : Vapktb.setTold w (Vapktb.ownSet w t j) = setL w (hds w fun h => cnt t h == j) := by
  unfold Vapktb.ownSet
  rw [setTold_of]
  exact congrArg (setL w) (hds_congr fun x _ => (cnt_own hj x).symm)
theorem hole_told {w : Nat} {t : Table} : Vapktb.setTold w (Vapktb.holeSet w t) = setL w (hds w fun h => cnt t h == t.length) := by
  unfold Vapktb.holeSet
  rw [setTold_of]
  exact congrArg (setL w) (hds_congr fun x _ => (cnt_hole x).symm)
theorem size_of (w : Nat) (f : Nat → Bool) : VapktBase.size w (VapktBase.setOf w f) = (hds w f).length := by
  unfold VapktBase.size hds
  rw [members_setOf]
theorem own_size {w : Nat} {t : Table} {j : Nat} (hj : j < t.length) : VapktBase.size w (Vapktb.ownSet w t j) = (hds w fun h => cnt t h == j).length := by
  unfold Vapktb.ownSet
  rw [size_of]
  exact congrArg List.length (hds_congr fun x _ => (cnt_own hj x).symm)
theorem hole_size {w : Nat} {t : Table} : VapktBase.size w (Vapktb.holeSet w t) = (hds w fun h => cnt t h == t.length).length := by
  unfold Vapktb.holeSet
  rw [size_of]
  exact congrArg List.length (hds_congr fun x _ => (cnt_hole x).symm)
theorem own_formOf {w : Nat} {t : Table} {j : Nat} (hj : j < t.length) : VapktBase.formOf w (Vapktb.ownSet w t j) = pats w (hds w fun h => cnt t h == j) := by
  unfold Vapktb.ownSet
  rw [form_of_list]
  exact congrArg (pats w) (hds_congr fun x _ => (cnt_own hj x).symm)
theorem own_zero {w : Nat} {t : Table} {j : Nat} (hj : j < t.length) : (Vapktb.ownSet w t j == 0) = ((hds w fun h => cnt t h == j).length == 0) := by
  rw [← own_size hj]
  unfold VapktBase.size
  by_cases c : Vapktb.ownSet w t j = 0
  · rw [c]
    have : VapktBase.members w 0 = [] := by unfold VapktBase.members VapktBase.has; simp
    rw [this]
    rfl
  · rw [beq_eq_false_iff_ne.mpr c]
    refine (beq_eq_false_iff_ne.mpr fun z => c ?_).symm
    refine members_inj (w := w) (setOf_lt w _) (Nat.two_pow_pos _) ?_
    rw [List.eq_nil_of_length_eq_zero z]
    unfold VapktBase.members VapktBase.has
    simp
/-- how many headers each rule, and none, has -/
def manyOf (w : Nat) (t : Table) : List Nat := (List.range (t.length + 1)).map fun j => (hds w fun h => cnt t h == j).length
theorem manyOf_len (w : Nat) (t : Table) : (manyOf w t).length = t.length + 1 := by unfold manyOf; rw [List.length_map, List.length_range]
theorem manyOf_counts (w : Nat) (t : Table) : natI (manyOf w t) = ((List.range t.length).map fun i => Vapktb.int (VapktBase.size w (Vapktb.ownSet w t i))) ++ [Vapktb.int (VapktBase.size w (Vapktb.holeSet w t))] := by
  unfold manyOf natI
  rw [List.range_succ, List.map_append, List.map_append, List.map_map]
  congr 1
  · refine List.map_congr_left fun j hj => ?_
    show ((hds w fun h => cnt t h == j).length : Int) = _
    rw [← own_size (List.mem_range.mp hj)]
    rfl
  · show [((hds w fun h => cnt t h == t.length).length : Int)] = _
    rw [← hole_size]
    rfl
theorem idle_eq (w : Nat) (t : Table) : Vapktb.idle w t = (List.range t.length).filter fun i => (hds w fun h => cnt t h == i).length == 0 := by
  unfold Vapktb.idle
  exact List.filter_congr fun i hi => own_zero (List.mem_range.mp hi)
/-! ### why -/
theorem find_top {f : Nat → Bool} : ∀ (w n : Nat), n < 2 ^ w → (∀ b, b < w → f b = n.testBit b) → n ≠ 0 → ((List.range w).reverse).find? f = some n.log2
  | 0, n, h, _, h0 => absurd (by rw [Nat.pow_zero] at h; omega) h0
  | w + 1, n, h, hf, h0 => by
    rw [List.range_succ, List.reverse_append]
    show (w :: (List.range w).reverse).find? f = _
    rw [List.find?_cons, hf w (Nat.lt_succ_self w)]
    cases e : n.testBit w with
    | true =>
      have hge : 2 ^ w ≤ n := Nat.ge_two_pow_of_testBit e
      have : n.log2 = w := (Nat.log2_eq_iff h0).mpr ⟨hge, h⟩
      rw [this]
    | false =>
      have hlt : n < 2 ^ w := by
        refine Nat.lt_pow_two_of_testBit n fun i hi => ?_
        by_cases c : i = w
        · rw [c]; exact e
        · exact Nat.testBit_lt_two_pow (Nat.lt_of_lt_of_le h (Nat.pow_le_pow_right (by decide) (by omega)))
      exact find_top w n hlt (fun b hb => hf b (by omega)) h0
theorem miss_bits {w : Nat} {p : Pat} {h : Nat} (wf : WFP w p) : ∀ b, (p.told.testBit b && p.bits.testBit b != h.testBit b) = ((h ^^^ p.bits) &&& p.told).testBit b := by
  intro b
  have e := congrArg (Nat.testBit · b) wf.2.2
  simp only [Nat.testBit_and, Nat.testBit_xor] at e ⊢
  cases h1 : p.told.testBit b <;> cases h2 : p.bits.testBit b <;> cases h3 : h.testBit b <;> simp_all
theorem miss_told {w : Nat} {p : Pat} {h : Nat} (wf : WFP w p) (hm : VapktBase.matchesIt p h = false) : (((Vapktb.missAt w p h).getD w : Nat) : Int) = (hb ((h ^^^ p.bits) &&& p.told) : Nat) - 1 := by
  have hlt : ((h ^^^ p.bits) &&& p.told) < 2 ^ w := Nat.lt_of_le_of_lt Nat.and_le_right wf.1
  have hne : ((h ^^^ p.bits) &&& p.told) ≠ 0 := by
    intro z
    have : VapktBase.matchesIt p h = true := by
      unfold VapktBase.matchesIt
      show (h &&& p.told == p.bits) = true
      rw [beq_iff_eq]
      refine Nat.eq_of_testBit_eq fun b => ?_
      have e := congrArg (Nat.testBit · b) wf.2.2
      have z := congrArg (Nat.testBit · b) z
      simp only [Nat.testBit_and, Nat.testBit_xor, Nat.zero_testBit] at e z ⊢
      cases h1 : p.told.testBit b <;> cases h2 : p.bits.testBit b <;> cases h3 : h.testBit b <;> simp_all
    rw [this] at hm
    cases hm
  have : Vapktb.missAt w p h = some ((h ^^^ p.bits) &&& p.told).log2 := find_top w _ hlt (fun b _ => miss_bits wf b) hne
  rw [this]
  unfold hb
  rw [if_neg hne]
  show ((Nat.log2 _ : Nat) : Int) = ((Nat.log2 _ + 1 : Nat) : Int) - 1
  omega
/-! ### comes out -/
def comeG (p : Nat) : Vapktb.Outcome → Option Nat
  | .sent q k => if q = p then some k else none
  | _ => none
theorem comes_testBit (w : Nat) (t : Table) (p k : Nat) : (Vapktb.comesOut w t p).testBit k = (List.range (2 ^ w)).any fun h => decide (Vapktb.outcome t h = .sent p k) := by
  unfold Vapktb.comesOut VapktBase.headers
  have key := foldl_or_testBit (fun h => comeG p (Vapktb.outcome t h)) k (List.range (2 ^ w)) 0
  rw [Nat.zero_testBit, Bool.false_or] at key
  refine Eq.trans ?_ (key.trans ?_)
  · refine congrArg (fun f => (List.foldl f 0 (List.range (2 ^ w))).testBit k) (funext fun s => funext fun h => ?_)
    cases Vapktb.outcome t h with
    | hole => rfl
    | dropped => rfl
    | sent q k =>
      show (if q = p then VapktBase.either s (VapktBase.one k) else s) = match (if q = p then some k else none) with | some j => Nat.lor s (2 ^ j) | none => s
      by_cases c : q = p
      · rw [if_pos c, if_pos c]
        rfl
      · rw [if_neg c, if_neg c]
  congr 1
  funext h
  cases Vapktb.outcome t h with
  | hole => rfl
  | dropped => rfl
  | sent q j =>
    show decide ((if q = p then some j else none) = some k) = _
    by_cases c : q = p
    · subst c
      rw [if_pos rfl]
      by_cases c2 : j = k
      · subst c2; simp
      · rw [decide_eq_false (by simpa using c2), decide_eq_false (by simpa using c2)]
    · rw [if_neg c, decide_eq_false (by simp), decide_eq_false (by simp [c])]
theorem outcome_lt {w : Nat} {t : Table} {h p k : Nat} (wf : WFT w t) (hh : h < 2 ^ w) (e : Vapktb.outcome t h = .sent p k) : k < 2 ^ w := by
  by_cases c : cnt t h = t.length
  · rw [out_hole c] at e; cases e
  · obtain ⟨r, hr, ho, _⟩ := out_at c
    rw [ho] at e
    have wr := (wf.2 r (List.mem_of_getElem? hr)).2
    cases ha : r.action with
    | drop => rw [ha] at e; cases e
    | send rw' port =>
      rw [ha] at e wr
      have e : (.sent port (VapktBase.rewritten rw' h) : Vapktb.Outcome) = .sent p k := e
      cases e
      show (h ^^^ (h &&& rw'.mask)) ||| rw'.bits < _
      exact Nat.or_lt_two_pow (Nat.xor_lt_two_pow hh (Nat.lt_of_le_of_lt Nat.and_le_left hh)) wr.2.1
theorem comes_lt {w : Nat} {t : Table} {p : Nat} (wf : WFT w t) : Vapktb.comesOut w t p < 2 ^ 2 ^ w := by
  refine lt_of_testBit fun k hk => ?_
  rw [comes_testBit]
  rw [List.any_eq_false]
  intro h hh
  rw [decide_eq_true_iff]
  intro e
  have := outcome_lt wf (List.mem_range.mp hh) e
  omega
/-- what comes out, in order of the headers -/
def sent1 (p h : Nat) : Vapktb.Outcome → Option (Nat × Nat)
  | .sent q k => if q = p then some (h, k) else none
  | _ => none
def sentL (w : Nat) (t : Table) (p : Nat) : List (Nat × Nat) := (List.range (2 ^ w)).filterMap fun h => sent1 p h (Vapktb.outcome t h)
theorem sent1_eq (p h q k : Nat) : sent1 p h (.sent q k) = if q = p then some (h, k) else none := rfl
theorem sentL_mem {w : Nat} {t : Table} {p : Nat} {x : Nat × Nat} : x ∈ sentL w t p ↔ x.1 < 2 ^ w ∧ Vapktb.outcome t x.1 = .sent p x.2 := by
  unfold sentL
  rw [List.mem_filterMap]
  constructor
  · rintro ⟨h, hh, e⟩
    cases o : Vapktb.outcome t h with
    | hole => rw [o] at e; cases e
    | dropped => rw [o] at e; cases e
    | sent q k =>
      rw [o] at e
      have e : (if q = p then some (h, k) else none) = some x := e
      by_cases c : q = p
      · rw [if_pos c] at e
        cases e
        subst c
        exact ⟨List.mem_range.mp hh, o⟩
      · rw [if_neg c] at e; cases e
  · rintro ⟨h1, h2⟩
    refine ⟨x.1, List.mem_range.mpr h1, ?_⟩
    rw [h2]
    show (if p = p then some (x.1, x.2) else none) = _
    rw [if_pos rfl]
theorem comes_members {w : Nat} {t : Table} {p : Nat} (wf : WFT w t) (k : Nat) : k ∈ VapktBase.members w (Vapktb.comesOut w t p) ↔ k ∈ (sentL w t p).map (·.2) := by
  unfold VapktBase.members VapktBase.headers VapktBase.has
  rw [List.mem_filter, List.mem_range, comes_testBit, List.any_eq_true, List.mem_map]
  constructor
  · rintro ⟨h1, h, hh, e⟩
    exact ⟨(h, k), sentL_mem.mpr ⟨List.mem_range.mp hh, of_decide_eq_true e⟩, rfl⟩
  · rintro ⟨x, hx, rfl⟩
    obtain ⟨h1, h2⟩ := sentL_mem.mp hx
    exact ⟨outcome_lt wf h1 h2, x.1, List.mem_range.mpr h1, decide_eq_true h2⟩
theorem members_rising (w s : Nat) : (VapktBase.members w s).Pairwise (· < ·) := List.Pairwise.filter _ List.pairwise_lt_range
theorem rising_ext : ∀ {l l' : List Nat}, l.Pairwise (· < ·) → l'.Pairwise (· < ·) → (∀ x, x ∈ l ↔ x ∈ l') → l = l'
  | [], [], _, _, _ => rfl
  | [], y :: l', _, _, h => absurd ((h y).mpr List.mem_cons_self) List.not_mem_nil
  | x :: l, [], _, _, h => absurd ((h x).mp List.mem_cons_self) List.not_mem_nil
  | x :: l, y :: l', p, p', h => by
    obtain ⟨p1, p2⟩ := List.pairwise_cons.mp p
    obtain ⟨q1, q2⟩ := List.pairwise_cons.mp p'
    have e : x = y := by
      rcases List.mem_cons.mp ((h x).mp List.mem_cons_self) with e | e
      · exact e
      · rcases List.mem_cons.mp ((h y).mpr List.mem_cons_self) with e' | e'
        · exact e'.symm
        · have := p1 y e'
          have := q1 x e
          omega
    subst e
    refine congrArg (x :: ·) (rising_ext p2 q2 fun z => ⟨fun hz => ?_, fun hz => ?_⟩)
    · rcases List.mem_cons.mp ((h z).mp (List.mem_cons_of_mem _ hz)) with e | e
      · have := p1 z hz; omega
      · exact e
    · rcases List.mem_cons.mp ((h z).mpr (List.mem_cons_of_mem _ hz)) with e | e
      · have := q1 z hz; omega
      · exact e
theorem to_heads (w : Nat) (t : Table) (p : Nat) : (sentL w t p).map (·.1) = hds w fun h => Vapktb.isTo p (Vapktb.outcome t h) := by
  unfold sentL hds
  induction List.range (2 ^ w) with
  | nil => rfl
  | cons h l ih =>
    rw [List.filter_cons]
    cases o : Vapktb.outcome t h with
    | hole =>
      rw [List.filterMap_cons_none (by rw [o]; rfl), ih]
      rfl
    | dropped =>
      rw [List.filterMap_cons_none (by rw [o]; rfl), ih]
      rfl
    | sent q k =>
      show _ = if (q == p) = true then _ else _
      by_cases c : q = p
      · rw [List.filterMap_cons_some (b := (h, k)) (by rw [o, sent1_eq, if_pos c]), List.map_cons, ih, if_pos (by rw [c, beq_self_eq_true])]
      · rw [List.filterMap_cons_none (by rw [o, sent1_eq, if_neg c]), ih, if_neg (by rw [beq_iff_eq]; exact c)]
theorem to_told (w : Nat) (t : Table) (p : Nat) : Vapktb.setTold w (Vapktb.toSet w t p) = setL w ((sentL w t p).map (·.1)) := by
  unfold Vapktb.toSet
  rw [setTold_of, to_heads]
/-! ### from -/
theorem foldl_either (w : Nat) (k : Nat) : ∀ (ps : List Pat) (s : Nat), (ps.foldl (fun s p => VapktBase.either s (VapktBase.patternSet w p)) s).testBit k = (s.testBit k || ps.any fun p => decide (k < 2 ^ w) && VapktBase.matchesIt p k)
  | [], s => by simp
  | p :: ps, s => by
    rw [List.foldl_cons, foldl_either w k ps, List.any_cons, ← Bool.or_assoc]
    congr 1
    show (s ||| VapktBase.patternSet w p).testBit k = _
    rw [Nat.testBit_or]
    congr 1
    exact setOf_testBit w _ k
def fromB (ps : List Pat) (p : Nat) : Vapktb.Outcome → Bool
  | .sent q k => q == p && ps.any fun q => VapktBase.matchesIt q k
  | _ => false
theorem from_heads {w : Nat} {t : Table} (wf : WFT w t) (p : Nat) (ps : List Pat) : Vapktb.setTold w (Vapktb.fromSet w t p (ps.foldl (fun s p => VapktBase.either s (VapktBase.patternSet w p)) 0)) =
    setL w (((sentL w t p).filter fun x => ps.any fun q => VapktBase.matchesIt q x.2).map (·.1)) := by
  unfold Vapktb.fromSet
  rw [setTold_of]
  refine congrArg (setL w) ?_
  have e1 : hds w (fun h => match Vapktb.outcome t h with
      | .sent q k => q == p && VapktBase.has (ps.foldl (fun s p => VapktBase.either s (VapktBase.patternSet w p)) 0) k
      | _ => false) = hds w fun h => fromB ps p (Vapktb.outcome t h) := by
    refine hds_congr fun h hh => ?_
    cases o : Vapktb.outcome t h with
    | hole => rfl
    | dropped => rfl
    | sent q k =>
      have hk := outcome_lt wf hh o
      show (q == p && Nat.testBit _ k) = (q == p && _)
      congr 1
      rw [foldl_either, Nat.zero_testBit, Bool.false_or, decide_eq_true hk]
      simp only [Bool.true_and]
  refine e1.trans ?_
  unfold sentL hds
  induction List.range (2 ^ w) with
  | nil => rfl
  | cons h l ih =>
    rw [List.filter_cons]
    cases o : Vapktb.outcome t h with
    | hole =>
      rw [List.filterMap_cons_none (by rw [o]; rfl), ← ih]
      rfl
    | dropped =>
      rw [List.filterMap_cons_none (by rw [o]; rfl), ← ih]
      rfl
    | sent q k =>
      show (if (q == p && ps.any fun q => VapktBase.matchesIt q k) = true then _ else _) = _
      by_cases c : q = p
      · rw [List.filterMap_cons_some (b := (h, k)) (by rw [o, sent1_eq, if_pos c]), List.filter_cons, c, beq_self_eq_true, Bool.true_and]
        show _ = List.map _ (if (ps.any fun q => VapktBase.matchesIt q k) = true then _ else _)
        cases ps.any fun q => VapktBase.matchesIt q k with
        | true => rw [if_pos rfl, if_pos rfl, List.map_cons, ← ih]
        | false => rw [if_neg Bool.false_ne_true, if_neg Bool.false_ne_true, ← ih]
      · rw [List.filterMap_cons_none (by rw [o, sent1_eq, if_neg c]), if_neg (by rw [beq_eq_false_iff_ne.mpr c]; exact Bool.false_ne_true)]
        exact ih
end Rt

/-! the desk: what stands where; __init__, headers, wide, put_table, put_rule, take_rule -/
namespace Rt
open PySem PySem.Spec PyProof.Rows L2
open VapktBase (Rule Action Table Rewrite)
open Vapktb (State)
/-- the desk's fields -/
def dkF (n : Int) (Tt : Addr) : List (Str × V) := [("bits", .int n), ("tables", .ref Tt)]
theorem dk_bits {n : Int} {Tt : Addr} : List.lookup ("bits" : Str) (dkF n Tt) = some (.int n) := lk1
theorem dk_tables {n : Int} {Tt : Addr} : List.lookup ("tables" : Str) (dkF n Tt) = some (.ref Tt) := (lk2 (by decide +kernel)).trans lk1
theorem dk_no {m : Str} {n : Int} {Tt : Addr} (h1 : (m == ("bits" : Str)) = false := by decide +kernel) (h2 : (m == ("tables" : Str)) = false := by decide +kernel) : List.lookup m (dkF n Tt) = none := (lk2 h1).trans ((lk2 h2).trans rfl)
def DeskAt (C : Addr) (H : Hp) (D Tt : Addr) (st : State) : Prop := ∃ dx a0 a1 t0 t1 n, st = ⟨n, [t0, t1]⟩ ∧ H D = some (.ins C dx (dkF (n : Nat) Tt)) ∧ H Tt = some (.lst [.ref a0, .ref a1]) ∧ TabAt H a0 t0 ∧ TabAt H a1 t1 ∧ WFT n t0 ∧ WFT n t1 ∧ 1 ≤ n ∧ n ≤ 7
theorem DeskAt.same {C : Addr} {H H' : Hp} {D Tt : Addr} {st : State} (s : Same H H') (h : DeskAt C H D Tt st) : DeskAt C H' D Tt st :=
  let ⟨dx, a0, a1, t0, t1, n, h0, h1, h2, h3, h4, h5, h6, h7, h8⟩ := h
  ⟨dx, a0, a1, t0, t1, n, h0, s _ _ h1, s _ _ h2, h3.same s, h4.same s, h5, h6, h7, h8⟩
theorem DeskAt.view {C : Addr} {H : Hp} {D Tt : Addr} {st : State} (h : DeskAt C H D Tt st) {i : Nat} (hi : i < 2) : ∃ dx xs a, H D = some (.ins C dx (dkF (st.wide : Nat) Tt)) ∧ H Tt = some (.lst xs) ∧ atI xs (i : Int) = some (.ref a) ∧
    ixN xs.length (i : Int) = some i ∧ TabAt H a (Vapktb.tableAt st i) ∧ WFT st.wide (Vapktb.tableAt st i) ∧ 1 ≤ st.wide ∧ st.wide ≤ 7 := by
  obtain ⟨dx, a0, a1, t0, t1, n, rfl, h1, h2, h3, h4, h5, h6, h7, h8⟩ := h
  rcases (show i = 0 ∨ i = 1 by omega) with rfl | rfl
  · exact ⟨dx, _, a0, h1, h2, atI_nat rfl, (by show ixN 2 0 = some 0; rfl), h3, h5, h7, h8⟩
  · exact ⟨dx, _, a1, h1, h2, atI_nat rfl, (by show ixN 2 1 = some 1; rfl), h4, h6, h7, h8⟩
theorem tab_ne {H : Hp} {a0 a1 Tt p : Addr} {t0 t : Table} (hT : H Tt = some (.lst [.ref a0, .ref a1])) (h0 : TabAt H a0 t0) (hp : TabAt H p t) : p ≠ Tt := by
  intro e
  subst e
  obtain ⟨as, h1, h2⟩ := hp
  obtain ⟨bs, h3, _⟩ := h0
  rw [hT] at h1
  have h1 := HO.lst.inj (Option.some.inj h1)
  cases as with
  | nil => cases h1
  | cons x as =>
    have e : a0 = x := V.ref.inj (List.cons.inj h1).1
    subst e
    cases h2 with
    | cons r _ =>
      obtain ⟨b, c, r1, _⟩ := r
      rw [r1] at h3
      cases h3
/-- the tables' places -/
def TA (H : Hp) (Tt z : Addr) : Prop := ∃ l, H Tt = some (.lst l) ∧ V.ref z ∈ l
/-- what a call leaves -/
structure After (C : Addr) (H H' : Hp) (D Tt Tt' : Addr) (st' : State) : Prop where
  dk : DeskAt C H' D Tt' st'
  tt : Tt' = Tt ∨ H Tt' = none
  kp : ∀ b o, H b = some o → b ≠ D → b ≠ Tt → H' b = some o
  fr : ∀ b, H' b = none → H b = none
  nw : ∀ z, H z ≠ none → ¬ TA H Tt z → ¬ TA H' Tt' z
theorem After.same {C : Addr} {H H' : Hp} {D Tt : Addr} {st : State} (d : DeskAt C H D Tt st) (s : Same H H') : After C H H' D Tt Tt st := ⟨d.same s, .inl rfl, fun b o e _ _ => s b o e, fun b e => s.free e, fun z _ h ⟨l, q1, q2⟩ => by
  obtain ⟨_, _, _, _, _, _, _, _, h2, _⟩ := d
  rw [s _ _ h2] at q1
  exact h ⟨l, h2.trans q1, q2⟩⟩
theorem After.on {C : Addr} {H H1 H2 : Hp} {D Tt Tt' : Addr} {st : State} (a : After C H H1 D Tt Tt' st) (s : Same H1 H2) : After C H H2 D Tt Tt' st := ⟨a.dk.same s, a.tt, fun b o e h1 h2 => s _ _ (a.kp b o e h1 h2), fun b e => a.fr _ (s.free e), fun z n h ⟨l, q1, q2⟩ => by
  obtain ⟨_, _, _, _, _, _, _, _, h2, _⟩ := a.dk
  rw [s _ _ h2] at q1
  exact a.nw z n h ⟨l, h2.trans q1, q2⟩⟩
theorem After.put {C : Addr} {H H1 : Hp} {D Tt p : Addr} {st : State} {i : Nat} {xs : List V} {t : Table} (d : DeskAt C H D Tt st) (s : Same H H1) (hT : H Tt = some (.lst xs)) (hp : TabAt H1 p t) (wf : WFT st.wide t) (hi : i < 2) (hn : H p = none ∨ TA H Tt p) :
    After C H (upd H1 Tt (.lst (xs.set i (.ref p)))) D Tt Tt { st with tables := st.tables.set i t } := by
  obtain ⟨dx, a0, a1, t0, t1, n, rfl, h1, h2, h3, h4, h5, h6, h7, h8⟩ := d
  have e := HO.lst.inj (Option.some.inj (hT.symm.trans h2))
  subst e
  have hT1 := s _ _ hT
  have g3 := h3.same s
  have g4 := h4.same s
  have hD : D ≠ Tt := fun z => by rw [z, hT] at h1; cases h1
  refine ⟨?_, .inl rfl, fun b o e _ n2 => by rw [upd_ne n2]; exact s _ _ e, fun b e => ?_, fun z nz h ⟨l, q1, q2⟩ => ?_⟩
  · rcases (show i = 0 ∨ i = 1 by omega) with rfl | rfl
    · exact ⟨dx, p, a1, t, t1, n, rfl, by rw [upd_ne hD]; exact s _ _ h1, by rw [upd_same]; rfl, TabAt.upd hT1 (tab_ne hT1 g3 hp) hp, TabAt.upd hT1 (tab_ne hT1 g3 g4) g4, wf, h6, h7, h8⟩
    · exact ⟨dx, a0, p, t0, t, n, rfl, by rw [upd_ne hD]; exact s _ _ h1, by rw [upd_same]; rfl, TabAt.upd hT1 (tab_ne hT1 g3 g3) g3, TabAt.upd hT1 (tab_ne hT1 g3 hp) hp, h5, wf, h7, h8⟩
  · by_cases c : b = Tt
    · rw [c, upd_same] at e; cases e
    · rw [upd_ne c] at e
      exact s.free e
  · rw [upd_same] at q1
    have q1 := HO.lst.inj (Option.some.inj q1)
    subst q1
    rcases List.mem_or_eq_of_mem_set q2 with q | q
    · exact h ⟨_, hT, q⟩
    · have q := V.ref.inj q
      subst q
      rcases hn with hn | hn
      · exact nz hn
      · exact h hn
/-- what a call answers, or which refusal it raises -/
structure Told (C CR CN : Addr) (H : Hp) (D Tt : Addr) (Q : VK) (E : XK) (x : State × List Int) : Prop where
  ret : ∀ H' p Tt', H p = none → After C H H' D Tt Tt' x.1 → IntsAt H' p x.2 → Q (.ref p) H'
  low : ∀ k, x.2 = [k] → ∀ H' d Tt', After C H H' D Tt Tt' x.1 → H' d = some (.xd [(("why" : Str), .int k)]) → E (.ref CR) (some d) H'
  bad : x.2 = [-1] → ∀ H' Tt', After C H H' D Tt Tt' x.1 → E (.ref CN) none H'
theorem IntsAt.new {H : Hp} {p : Addr} {ns : List Int} {l : List V} (h : l = ns.map V.int) : IntsAt (upd H p (.lst l)) p ns := by
  unfold IntsAt
  rw [upd_same, h]
theorem below_none {z : Int} {m : Nat} (h : ¬ (0 ≤ z ∧ z < (m : Int))) : Vapktb.belowN z m = none := by
  unfold Vapktb.belowN Vapktb.int
  rw [if_neg h]
theorem below_some {k m : Nat} (h : k < m) : Vapktb.belowN (k : Nat) m = some k := by
  unfold Vapktb.belowN Vapktb.int
  rw [if_pos ⟨by omega, by omega⟩, Int.toNat_natCast]
theorem nat_of {z : Int} (h : 0 ≤ z) : ∃ k : Nat, z = (k : Nat) := ⟨z.toNat, by omega⟩
section
variable {P : Program} {w : World} {K : PySem.W.Frag} {mg : Str → Option Value} {base : Heap}
def spDInit (C : Addr) : Sp := fun vs H Q _ => ∃ (D dx : Addr), vs = [.ref D] ∧ H D = some (.ins C dx []) ∧ ∀ H' Tt, H Tt = none → DeskAt C H' D Tt Vapktb.start → Keep D H H' → Q .non H'
theorem ok_Desk_init (T : Txt K mg) : FnOk P w K mg base CX0 1 T.Desk_init.f T.Desk_init.fd ["self"] (spDInit T.cDesk) := by
  refine T.Desk_init.fn.ok sc_Desk_init (fun vs H Q E h => ?_) (fun cdv A outer s H vs Q E hr h => ⟨_, (pss_cons (ps_fld (pv 0) pe_int rfl)
      (pss_one (ps_fld (pv 0) (pe_lst (pa_cons (pe_lst pa_nil) (pa_cons (pe_lst pa_nil) pa_nil))) rfl))), ?_⟩)
  · obtain ⟨D, dx, rfl, _⟩ := h
    rfl
  · obtain ⟨D, dx, rfl, hD, k⟩ := h
    refine ⟨_, rfl, D, T.cDesk, dx, [], rfl, hD, T.kDesk, T.nDesk_bits, (by show 0 < 1000; decide), ?_⟩
    have hD1 : upd H D (.ins T.cDesk dx (putF "bits" (.int 4) [])) D = some (.ins T.cDesk dx [("bits", .int 4)]) := upd_same
    have k1 : Keep D H (upd H D (.ins T.cDesk dx (putF "bits" (.int 4) []))) := keep_upd
    generalize upd H D (.ins T.cDesk dx (putF "bits" (.int 4) [])) = H1 at hD1 k1
    refine ⟨(by show 0 ≤ sizeLine; decide), fun a0 n0 => ⟨(by show 0 ≤ sizeLine; decide), fun a1 n1 => ⟨(by show 2 ≤ sizeLine; decide), fun Tt nT => ?_⟩⟩⟩
    have s0 := snew (o := .lst []) n0
    have s1 := snew (o := .lst []) n1
    have s2 := snew (o := .lst [.ref a0, .ref a1]) nT
    have hD2 := s2 _ _ (s1 _ _ (s0 _ _ hD1))
    have st : Same H1 _ := (s0.trans s1).trans s2
    refine ⟨_, rfl, D, T.cDesk, dx, _, rfl, hD2, T.kDesk, T.nDesk_tables, (by show 1 < 1000; decide), ?_⟩
    have TD : Tt ≠ D := fun z => by
      have := (s0.trans s1).free nT
      rw [z, hD1] at this
      cases this
    have e0 : ∀ b l, upd (upd (upd H1 a0 (.lst [])) a1 (.lst [])) Tt (.lst [.ref a0, .ref a1]) b = some (.lst l) → b ≠ D := fun b l e z => by rw [z, hD2] at e; cases e
    refine k _ Tt ?_ ⟨dx, a0, a1, [], [], 4, rfl, ?_, ?_, ⟨[], ?_, .nil⟩, ⟨[], ?_, .nil⟩, ⟨by decide, fun _ z => nomatch z⟩, ⟨by decide, fun _ z => nomatch z⟩, by decide, by decide⟩ ((k1.trans (Keep.of st)).trans keep_upd)
    · have := (s0.trans s1).free nT
      cases e : H Tt with
      | none => rfl
      | some o => rw [k1 _ _ e TD] at this; cases this
    · rw [upd_same]
      refine congrArg (fun q => some (HO.ins T.cDesk dx q)) ?_
      show putF "tables" (.ref Tt) [("bits", .int 4)] = _
      rw [pf2 (by decide +kernel)]
      rfl
    · rw [upd_ne TD]; exact upd_same
    · have e := s2 _ _ (s1 _ _ (upd_same (H := H1) (a := a0) (o := .lst [])))
      rw [upd_ne (e0 _ _ e)]; exact e
    · have e := s2 _ _ (upd_same (H := upd H1 a0 (.lst [])) (a := a1) (o := .lst []))
      rw [upd_ne (e0 _ _ e)]; exact e
def allH (n : Nat) : List Nat := List.range (2 ^ n)
theorem rgV_allH (n : Nat) : rgV 0 ((2 ^ n : Nat) : Int) = natV (allH n) := by
  unfold rgV natV natI allH
  rw [Int.sub_zero, Int.toNat_natCast, List.map_map]
  refine List.map_congr_left fun i _ => ?_
  show V.int (0 + (i : Nat)) = V.int (i : Nat)
  rw [zadd]
def spHeaders (C : Addr) : Sp := fun vs H Q _ => ∃ (D Tt : Addr) (st : State), vs = [.ref D] ∧ DeskAt C H D Tt st ∧ ∀ H' p, Same H H' → H' p = some (.lst (natV (allH st.wide))) → Q (.ref p) H'
theorem ok_Desk_headers (T : Txt K mg) : FnOk P w K mg base CX0 1 T.Desk_headers.f T.Desk_headers.fd ["self"] (spHeaders T.cDesk) := by
  refine T.Desk_headers.fn.ok sc_Desk_headers (fun vs H Q E h => ?_) (fun cdv A outer s H vs Q E hr h => ⟨_, (pss_one (ps_ret (pe_listRg rfl rfl T.zlist (prg_1 rfl T.zrange (pe_op op_shl pe_int (pe_fld (pv 0) rfl)))))), ?_⟩)
  · obtain ⟨D, Tt, st, rfl, _⟩ := h
    rfl
  · obtain ⟨D, Tt, st, rfl, d, k⟩ := h
    obtain ⟨dx, xs, a, hD, hT, hat, hix, ht, wf, hn1, hn7⟩ := d.view (i := 0) (by decide)
    have := pow_le hn7
    refine ⟨_, rfl, _, _, _, _, _, rfl, hD, T.kDesk, T.nDesk_bits, dk_bits, _, _, rfl, rfl, cpow1 hn7, _, rfl, ?_⟩
    rw [shl1]
    have hr : RgOk 0 ((2 ^ st.wide : Nat) : Int) := by
      generalize 2 ^ st.wide = m at this
      exact RgOk.of_le (by omega) (by omega) (by omega) (by omega)
    refine ⟨hr, fun p np => k _ p (snew np) ?_⟩
    rw [upd_same, rgV_allH]
def aWide (st : State) (z : Int) : State × List Int := if 1 ≤ z ∧ z ≤ Vapktb.int VapktBase.WIDE then (⟨z.toNat, [[], []]⟩, [0]) else (st, [-1])
def spWide (C CR CN : Addr) : Sp := fun vs H Q E => ∃ (D Tt : Addr) (st : State) (z : Int), vs = [.ref D, .int z] ∧ DeskAt C H D Tt st ∧ Told C CR CN H D Tt Q E (aWide st z)
theorem ok_Desk_wide (T : Txt K mg) : FnOk P w K mg base (L2.CX P w) 4 T.Desk_wide.f T.Desk_wide.fd ["self", "number"] (spWide T.cDesk T.cRef T.cNR) := by
  refine T.Desk_wide.fn.okX sc_Desk_wide (fun vs H Q E h => ?_) (fun cdv A outer s H vs Q E hr h => ⟨_, (pss_cons (ps_expr (pe_call (ok_refuse_if T) (hr.mono (by decide)) rfl T.refuse_if.gl T.refuse_if.kp T.refuse_if.bd .nil (passes_call (takes_of rfl rfl rfl rfl) (fun _ _ _ _ h => h)) (pa_cons (pe_not (pe_chain op_le op_le pe_int (pv 1) (pgi rfl T.cMOST_BITS))) (pa_cons (pe_un un_neg pe_int) pa_nil))))
      (pss_cons (ps_fld (pv 0) (pv 1) rfl)
      (pss_cons (ps_fld (pv 0) (pe_lst (pa_cons (pe_lst pa_nil) (pa_cons (pe_lst pa_nil) pa_nil))) rfl)
      (pss_one (ps_ret (pe_lst (pa_cons pe_int pa_nil))))))), ?_⟩)
  · obtain ⟨D, Tt, st, z, rfl, _⟩ := h
    rfl
  · obtain ⟨D, Tt, st, z, rfl, d, k⟩ := h
    have no : ¬ (1 ≤ z ∧ z ≤ 7) → ∀ d', H d' = none → E (.ref T.cRef) (some d') (upd H d' (.xd [(("why" : Str), .int (-1))])) := fun c d' nd => by
      have e : aWide st z = (st, [-1]) := if_neg c
      rw [e] at k
      exact k.low (-1) rfl _ d' Tt (After.same d (snew nd)) upd_same
    refine ⟨_, rfl, _, _, rfl, rfl, _, rfl, ?_⟩
    by_cases c1 : 1 ≤ z
    · refine ifT (decide_eq_true c1) ⟨_, _, rfl, rfl, _, rfl, _, rfl, _, _, rfl, fun c => ?_, fun c => ?_⟩
      · have c2 : z ≤ 7 := by simpa using c
        have e : aWide st z = (⟨z.toNat, [[], []]⟩, [0]) := if_pos ⟨c1, c2⟩
        rw [e] at k
        obtain ⟨n, rfl⟩ := nat_of (show 0 ≤ z by omega)
        rw [Int.toNat_natCast] at k
        obtain ⟨dx, xs, a, hD, hT, hat, hix, ht, wf, hn1, hn7⟩ := d.view (i := 0) (by decide)
        refine ⟨_, rfl, _, rfl, D, T.cDesk, dx, _, rfl, hD, T.kDesk, T.nDesk_bits, (by show 2 < 1000; decide), ?_⟩
        have hD1 : upd H D (.ins T.cDesk dx (putF "bits" (.int (n : Nat)) (dkF (st.wide : Nat) Tt))) D = some (.ins T.cDesk dx (dkF (n : Nat) Tt)) := by
          rw [upd_same]
          exact congrArg (fun q => some (HO.ins T.cDesk dx q)) pf1
        have k1 : Keep D H (upd H D (.ins T.cDesk dx (putF "bits" (.int (n : Nat)) (dkF (st.wide : Nat) Tt)))) := keep_upd
        have f1 : ∀ b, upd H D (.ins T.cDesk dx (putF "bits" (.int (n : Nat)) (dkF (st.wide : Nat) Tt))) b = none → H b = none := fun b e => by
          by_cases c : b = D
          · rw [c, upd_same] at e; cases e
          · rw [upd_ne c] at e; exact e
        generalize upd H D (.ins T.cDesk dx (putF "bits" (.int (n : Nat)) (dkF (st.wide : Nat) Tt))) = H1 at hD1 k1 f1
        refine ⟨(by show 0 ≤ sizeLine; decide), fun a0 n0 => ⟨(by show 0 ≤ sizeLine; decide), fun a1 n1 => ⟨(by show 2 ≤ sizeLine; decide), fun T2 nT => ?_⟩⟩⟩
        have s0 := snew (o := .lst []) n0
        have s1 := snew (o := .lst []) n1
        have s2 := snew (o := .lst [.ref a0, .ref a1]) nT
        have hD2 := s2 _ _ (s1 _ _ (s0 _ _ hD1))
        have st' : Same H1 _ := (s0.trans s1).trans s2
        refine ⟨_, rfl, D, T.cDesk, dx, _, rfl, hD2, T.kDesk, T.nDesk_tables, (by show 2 < 1000; decide), ?_⟩
        have TD : T2 ≠ D := fun z => by
          have := (s0.trans s1).free nT
          rw [z, hD1] at this
          cases this
        have e0 : ∀ b l, upd (upd (upd H1 a0 (.lst [])) a1 (.lst [])) T2 (.lst [.ref a0, .ref a1]) b = some (.lst l) → b ≠ D := fun b l e z => by rw [z, hD2] at e; cases e
        have ep : putF "tables" (.ref T2) (dkF (n : Nat) Tt) = dkF (n : Nat) T2 := (pf2 (by decide +kernel)).trans (congrArg _ pf1)
        rw [ep]
        refine ⟨(by show 1 ≤ sizeLine; decide), fun p np => ?_⟩
        have fz : ∀ b, upd (upd (upd (upd H1 a0 (.lst [])) a1 (.lst [])) T2 (.lst [.ref a0, .ref a1])) D (.ins T.cDesk dx (dkF (n : Nat) T2)) b = none → H b = none := fun b e => by
          by_cases c : b = D
          · rw [c, upd_same] at e; cases e
          · rw [upd_ne c] at e
            exact f1 _ (st'.free e)
        have A : After T.cDesk H (upd (upd (upd (upd H1 a0 (.lst [])) a1 (.lst [])) T2 (.lst [.ref a0, .ref a1])) D (.ins T.cDesk dx (dkF (n : Nat) T2))) D Tt T2 ⟨n, [[], []]⟩ := by
          refine ⟨⟨dx, a0, a1, [], [], n, rfl, upd_same, by rw [upd_ne TD]; exact upd_same, ⟨[], ?_, .nil⟩, ⟨[], ?_, .nil⟩, ⟨by show 0 ≤ 8; decide, fun _ z => nomatch z⟩, ⟨by show 0 ≤ 8; decide, fun _ z => nomatch z⟩, by omega, by omega⟩, .inr (f1 _ ((s0.trans s1).free nT)), fun b o e nD nTt => ?_, fz, fun z nz _ ⟨l, q1, q2⟩ => ?_⟩
          · have e := s2 _ _ (s1 _ _ (upd_same (H := H1) (a := a0) (o := .lst [])))
            rw [upd_ne (e0 _ _ e)]; exact e
          · have e := s2 _ _ (upd_same (H := upd H1 a0 (.lst [])) (a := a1) (o := .lst []))
            rw [upd_ne (e0 _ _ e)]; exact e
          · rw [upd_ne nD]
            exact st' _ _ (k1 _ _ e nD)
          · rw [upd_ne TD, upd_same] at q1
            have q1 := HO.lst.inj (Option.some.inj q1)
            subst q1
            rcases List.mem_cons.mp q2 with q | q
            · exact nz (V.ref.inj q ▸ f1 _ n0)
            · exact nz (V.ref.inj (List.mem_singleton.mp q) ▸ f1 _ (s0.free n1))
        exact k.ret _ p T2 (fz _ np) (A.on (snew np)) (IntsAt.new rfl)
      · exact no (fun z => by simp at c; omega)
    · exact ifF (decide_eq_false c1) ⟨_, rfl, _, rfl, _, _, rfl, fun c => (by cases c), fun _ => no fun z => c1 z.1⟩
end
end Rt

/-! put_table, put_rule, take_rule, does, own, turn, why_told -/
namespace Rt
open PySem PySem.Spec PyProof.Rows L2
open VapktBase (Rule Action Table Rewrite)
open Vapktb (State)
theorem Told.same {C CR CN : Addr} {H : Hp} {D Tt : Addr} {Q : VK} {E : XK} {st : State} {ans : List Int} (d : DeskAt C H D Tt st) (k : Told C CR CN H D Tt Q E (st, ans)) {H' : Hp} {p : Addr} (n : H p = none) (s : Same H H') (h : IntsAt H' p ans) : Q (.ref p) H' :=
  k.ret H' p Tt n (After.same d s) h
theorem Told.no {C CR CN : Addr} {H : Hp} {D Tt : Addr} {Q : VK} {E : XK} {st : State} {z : Int} (d : DeskAt C H D Tt st) (k : Told C CR CN H D Tt Q E (st, [z])) {H' : Hp} (s : Same H H') {d' : Addr} (nd : H' d' = none) : E (.ref CR) (some d') (upd H' d' (.xd [(("why" : Str), .int z)])) :=
  k.low z rfl _ d' Tt (After.same d (s.trans (snew nd))) upd_same
theorem Told.bads {C CR CN : Addr} {H : Hp} {D Tt : Addr} {Q : VK} {E : XK} {st : State} (d : DeskAt C H D Tt st) (k : Told C CR CN H D Tt Q E (st, [-1])) {H' : Hp} (s : Same H H') : E (.ref CN) none H' :=
  k.bad rfl _ Tt (After.same d s)
section
variable {P : Program} {w : World} {K : PySem.W.Frag} {mg : Str → Option Value} {base : Heap}
/-- which, a list -/
def spDN (K : PySem.W.Frag) (C CR CN : Addr) (f : State → Nat → List Int → State × List Int) : Sp := fun vs H Q E => ∃ (D Tt na : Addr) (st : State) (i : Nat) (l : List Int), vs = [.ref D, .int (i : Nat), .ref na] ∧ DeskAt C H D Tt st ∧ i < 2 ∧ SqL K H na (l.map V.int) ∧ Told C CR CN H D Tt Q E (f st i l)
/-- which, a number -/
def spDZ (C CR CN : Addr) (f : State → Nat → Int → State × List Int) : Sp := fun vs H Q E => ∃ (D Tt : Addr) (st : State) (i : Nat) (z : Int), vs = [.ref D, .int (i : Nat), .int z] ∧ DeskAt C H D Tt st ∧ i < 2 ∧ Told C CR CN H D Tt Q E (f st i z)
/-- which, a number, a list -/
def spDZN (K : PySem.W.Frag) (C CR CN : Addr) (f : State → Nat → Int → List Int → State × List Int) : Sp := fun vs H Q E => ∃ (D Tt na : Addr) (st : State) (i : Nat) (z : Int) (l : List Int), vs = [.ref D, .int (i : Nat), .int z, .ref na] ∧ DeskAt C H D Tt st ∧ i < 2 ∧ SqL K H na (l.map V.int) ∧
  Told C CR CN H D Tt Q E (f st i z l)
/-- which -/
def spDI (C CR CN : Addr) (f : State → Nat → State × List Int) : Sp := fun vs H Q _ => ∃ (D Tt : Addr) (st : State) (i : Nat) (E : XK), vs = [.ref D, .int (i : Nat)] ∧ DeskAt C H D Tt st ∧ i < 2 ∧ Told C CR CN H D Tt Q E (f st i)
def aTable (st : State) (i : Nat) (l : List Int) : State × List Int := match Vapktb.tableOf st.wide l with
  | none => (st, [-1])
  | some t => Vapktb.setTable st i t [Vapktb.int t.length]
theorem ok_Desk_put_table (T : Txt K mg) : FnOk P w K mg base (L2.CX P w) 6 T.Desk_put_table.f T.Desk_put_table.fd ["self", "which", "numbers"] (spDN K T.cDesk T.cRef T.cNR aTable) := by
  refine T.Desk_put_table.fn.okX sc_Desk_put_table (fun vs H Q E h => ?_) (fun cdv A outer s H vs Q E hr h => ⟨_, (pss_cons (ps_asg (pe_call (ok_table_of T) (hr.mono (by decide)) rfl T.table_of.gl T.table_of.kp T.table_of.bd .nil (passes_call (takes_of rfl rfl rfl rfl) (fun _ _ _ _ h => h)) (pa_cons (pv 2) (pa_cons (pe_fld (pv 0) rfl) pa_nil))) (pg_sub (pe_fld (pv 0) rfl) (pv 1) set_list))
      (pss_one (ps_ret (pe_lst (pa_cons (pe_callB call_len_seq (by rfl) T.zlen PySem.boot_len (pa_cons (pe_ix ix_list (pe_fld (pv 0) rfl) (pv 1) (fun _ _ => rfl)) pa_nil)) pa_nil))))), ?_⟩)
  · obtain ⟨D, Tt, na, st, i, l, rfl, _⟩ := h
    rfl
  · obtain ⟨D, Tt, na, st, i, l, rfl, d, hi, hS, k⟩ := h
    obtain ⟨dx, xs, a, hD, hT, hat, hix, ht, wf, hn1, hn7⟩ := d.view hi
    refine ⟨_, rfl, _, rfl, _, _, _, _, _, rfl, hD, T.kDesk, T.nDesk_bits, dk_bits, na, l, st.wide, rfl, hS, hn7, fun t e H1 p fp s1 hp => ?_, fun e H1 s1 => ?_⟩
    · have e' : aTable st i l = Vapktb.setTable st i t [Vapktb.int t.length] := by unfold aTable; rw [e]
      rw [e'] at k
      have A := After.put d s1 hT hp (tableOf_wf e) hi (.inl fp)
      refine ⟨_, rfl, _, _, _, _, _, rfl, s1 _ _ hD, T.kDesk, T.nDesk_tables, dk_tables, _, rfl, Tt, xs, _, i, rfl, rfl, s1 _ _ hT, hix, ?_⟩
      obtain ⟨dx', xs', a', hD', hT', hat', hix', ht', wf', _, _⟩ := A.dk.view hi
      obtain ⟨as, g1, g2⟩ := ht'
      have et : Vapktb.tableAt { st with tables := st.tables.set i t } i = t := by
        obtain ⟨_, _, _, t0, t1, n, rfl, _⟩ := d
        rcases (show i = 0 ∨ i = 1 by omega) with rfl | rfl <;> rfl
      rw [et] at g2
      refine ⟨_, rfl, _, _, _, _, _, rfl, hD', T.kDesk, T.nDesk_tables, dk_tables, _, rfl, _, _, _, _, rfl, rfl, SqL.of (hT'), hat', a', _, rfl, .inl (SqL.of g1), (by show 1 ≤ sizeLine; decide), fun q nq => ?_⟩
      rw [List.length_map, Paired.len g2]
      exact k.ret _ q Tt (A.fr _ nq) (A.on (snew nq)) (IntsAt.new rfl)
    · have e' : aTable st i l = (st, [-1]) := by unfold aTable; rw [e]
      rw [e'] at k
      exact k.bads d s1
def aPut (st : State) (i : Nat) (z : Int) (l : List Int) : State × List Int := match Vapktb.belowN z ((Vapktb.tableAt st i).length + 1) with
  | none => (st, [-3])
  | some j => match Vapktb.ruleOf st.wide l with
    | none => (st, [-1])
    | some r => if VapktBase.RULES ≤ (Vapktb.tableAt st i).length then (st, [-5]) else Vapktb.setTable st i ((Vapktb.tableAt st i).take j ++ r :: (Vapktb.tableAt st i).drop j) [Vapktb.int ((Vapktb.tableAt st i).length + 1)]
theorem ok_Desk_put_rule (T : Txt K mg) : FnOk P w K mg base (L2.CX P w) 6 T.Desk_put_rule.f T.Desk_put_rule.fd ["self", "which", "place", "numbers"] (spDZN K T.cDesk T.cRef T.cNR aPut) := by
  refine T.Desk_put_rule.fn.okX sc_Desk_put_rule (fun vs H Q E h => ?_) (fun cdv A outer s H vs Q E hr h => ⟨_, (pss_cons (ps_set (i := 4) sc_Desk_put_rule.nd rfl (Or.inl rfl) (pe_ix ix_list (pe_fld (pv 0) rfl) (pv 1) (fun _ _ => rfl)))
      (pss_cons (ps_expr (pe_call (ok_refuse_if T) (hr.mono (by decide)) rfl T.refuse_if.gl T.refuse_if.kp T.refuse_if.bd .nil (passes_call (takes_of rfl rfl rfl rfl) (fun _ _ _ _ h => h)) (pa_cons (pe_not (pe_chain op_le op_le pe_int (pv 2) (pe_callB call_len_seq (by rfl) T.zlen PySem.boot_len (pa_cons (pv 4) pa_nil)))) (pa_cons (pe_un un_neg pe_int) pa_nil))))
      (pss_cons (ps_set (i := 5) sc_Desk_put_rule.nd rfl (Or.inl rfl) (pe_call (ok_rule_of T) (hr.mono (by decide)) rfl T.rule_of.gl T.rule_of.kp T.rule_of.bd .nil (passes_call (takes_of rfl rfl rfl rfl) (fun _ _ _ _ h => h)) (pa_cons (pv 3) (pa_cons (pe_fld (pv 0) rfl) pa_nil))))
      (pss_cons (ps_expr (pe_call (ok_refuse_if T) (hr.mono (by decide)) rfl T.refuse_if.gl T.refuse_if.kp T.refuse_if.bd .nil (passes_call (takes_of rfl rfl rfl rfl) (fun _ _ _ _ h => h)) (pa_cons (pe_cmpR op_ge (pe_callB call_len_seq (by rfl) T.zlen PySem.boot_len (pa_cons (pv 4) pa_nil)) (pgi rfl T.cMOST_RULES) (nomark _)) (pa_cons (pe_un un_neg pe_int) pa_nil))))
      (pss_cons (ps_asg (pe_op op_cat (pe_op op_cat (pe_slice sl_list (pv 4) po_none (po_some (pv 2))) (pe_lst (pa_cons (pv 5) pa_nil))) (pe_slice sl_list (pv 4) (po_some (pv 2)) po_none)) (pg_sub (pe_fld (pv 0) rfl) (pv 1) set_list))
      (pss_one (ps_ret (pe_lst (pa_cons (pe_op op_add (pe_callB call_len_seq (by rfl) T.zlen PySem.boot_len (pa_cons (pv 4) pa_nil)) pe_int) pa_nil))))))))), ?_⟩)
  · obtain ⟨D, Tt, na, st, i, z, l, rfl, _⟩ := h
    rfl
  · obtain ⟨D, Tt, na, st, i, z, l, rfl, d, hi, hS, k⟩ := h
    obtain ⟨dx, xs, a, hD, hT, hat, hix, ht, wf, hn1, hn7⟩ := d.view hi
    unfold aPut at k
    generalize Vapktb.tableAt st i = t at ht wf k
    obtain ⟨as, ha, hp⟩ := ht
    have hl := Paired.len hp
    have w8 := wf.1
    have no : ¬ (0 ≤ z ∧ z < ((t.length + 1 : Nat) : Int)) → ∀ d', H d' = none → E (.ref T.cRef) (some d') (upd H d' (.xd [(("why" : Str), .int (-3))])) := fun c d' nd => by
      rw [below_none c] at k
      exact k.no d (Same.refl H) nd
    refine ⟨_, rfl, _, _, _, _, _, rfl, hD, T.kDesk, T.nDesk_tables, dk_tables, _, rfl, _, _, _, _, rfl, rfl, SqL.of (hT), hat, _, rfl, _, _, rfl, rfl, _, rfl, ?_⟩
    by_cases c1 : 0 ≤ z
    · refine ifT (decide_eq_true c1) ⟨_, rfl, a, _, rfl, .inl (SqL.of ha), _, _, rfl, rfl, _, rfl, _, rfl, _, _, rfl, fun c => ?_, fun c => no fun q => ?_⟩
      · rw [List.length_map, hl] at c
        have c2 : z ≤ t.length := by simpa using c
        obtain ⟨j, rfl⟩ := nat_of c1
        rw [below_some (show j < t.length + 1 by omega)] at k
        refine ⟨_, rfl, _, rfl, _, _, _, _, _, rfl, hD, T.kDesk, T.nDesk_bits, dk_bits, na, l, st.wide, rfl, hS, hn7, fun r e H1 p s1 hr => ?_, fun e H1 s1 => ?_⟩
        · replace k : Told T.cDesk T.cRef T.cNR H D Tt Q E (if VapktBase.RULES ≤ t.length then (st, [-5]) else Vapktb.setTable st i (t.take j ++ r :: t.drop j) [Vapktb.int (t.length + 1)]) := by
            have k := k
            rw [e] at k
            exact k
          refine ⟨_, rfl, a, _, rfl, .inl (SqL.of (s1 _ _ ha)), _, _, rfl, rfl, _, rfl, _, _, rfl, fun c => ?_, fun c d' nd => ?_⟩
          · rw [List.length_map, hl] at c
            have c3 : ¬ (VapktBase.RULES ≤ t.length) := fun z => by
              have := of_decide_eq_false c
              have z : 8 ≤ t.length := z
              omega
            rw [if_neg c3] at k
            refine ⟨_, rfl, _, rfl, _, rfl, a, _, rfl, SqL.of (s1 _ _ ha), fun p1 n1 => ?_⟩
            rw [cutR_to]
            have s2 := snew (o := .lst ((as.take j).map V.ref)) n1
            refine ⟨_, rfl, (by show 1 ≤ sizeLine; decide), fun p2 n2 => ?_⟩
            have s3 := snew (o := .lst [.ref p]) n2
            have l1 : ((as.take j).map V.ref).length ≤ 8 := by rw [List.length_map, List.length_take]; omega
            refine ⟨p1, p2, _, _, rfl, rfl, s3 _ _ upd_same, upd_same, size1000' (by show _ + 1 ≤ _; omega), fun p3 n3 => ?_⟩
            have s4 := snew (o := .lst ((as.take j).map V.ref ++ [.ref p])) n3
            have s14 := ((s1.trans s2).trans s3).trans s4
            refine ⟨_, rfl, _, rfl, _, rfl, a, _, rfl, SqL.of (s14 _ _ ha), fun p4 n4 => ?_⟩
            rw [cutR_from]
            have s5 := snew (o := .lst ((as.drop j).map V.ref)) n4
            refine ⟨p3, p4, _, _, rfl, rfl, s5 _ _ upd_same, upd_same, size1000' ?_, fun p5 n5 => ?_⟩
            · rw [List.length_append, List.length_map (as := as.drop j), List.length_drop]
              show _ + 1 + _ ≤ _
              omega
            · have s6 := snew (o := .lst ((as.take j).map V.ref ++ [.ref p] ++ (as.drop j).map V.ref)) n5
              have s16 := (s14.trans s5).trans s6
              have hN : TabAt (upd (upd (upd (upd (upd H1 p1 (.lst ((as.take j).map V.ref))) p2 (.lst [.ref p])) p3 (.lst ((as.take j).map V.ref ++ [.ref p]))) p4 (.lst ((as.drop j).map V.ref))) p5 (.lst ((as.take j).map V.ref ++ [.ref p] ++ (as.drop j).map V.ref))) p5 (t.take j ++ r :: t.drop j) := by
                refine ⟨as.take j ++ (p :: as.drop j), by rw [upd_same, List.map_append, List.append_assoc]; rfl, ?_⟩
                exact Paired.app (Paired.mapP (Paired.take j hp) fun _ _ q => RuleAt.same s16 q) (.cons (RuleAt.same (((s2.trans s3).trans s4).trans (s5.trans s6)) hr) (Paired.mapP (Paired.drop j hp) fun _ _ q => RuleAt.same s16 q))
              have wN : WFT st.wide (t.take j ++ r :: t.drop j) := by
                refine ⟨?_, fun x hx => ?_⟩
                · rw [List.length_append, List.length_cons, List.length_take, List.length_drop]
                  have c3 : ¬ (8 ≤ t.length) := c3
                  omega
                · rcases List.mem_append.mp hx with hx | hx
                  · exact wf.2 x (List.mem_of_mem_take hx)
                  · rcases List.mem_cons.mp hx with rfl | hx
                    · exact ruleOf_wf e
                    · exact wf.2 x (List.mem_of_mem_drop hx)
              have A := After.put d s16 hT hN wN hi (.inl ((s14.trans s5).free n5))
              refine ⟨_, rfl, _, _, _, _, _, rfl, s16 _ _ hD, T.kDesk, T.nDesk_tables, dk_tables, _, rfl, Tt, xs, _, i, rfl, rfl, s16 _ _ hT, hix, ?_⟩
              have haA : (upd (upd (upd (upd (upd (upd H1 p1 (.lst ((as.take j).map V.ref))) p2 (.lst [.ref p])) p3 (.lst ((as.take j).map V.ref ++ [.ref p]))) p4 (.lst ((as.drop j).map V.ref))) p5 (.lst ((as.take j).map V.ref ++ [.ref p] ++ (as.drop j).map V.ref))) Tt (.lst (xs.set i (.ref p5)))) a = some (.lst (as.map V.ref)) := by
                have ne : a ≠ Tt := by
                  obtain ⟨_, a0, a1, t0, t1, n, _, _, q2, q3, _⟩ := d
                  exact tab_ne q2 q3 ⟨as, ha, hp⟩
                rw [upd_ne ne]
                exact s16 _ _ ha
              refine ⟨_, rfl, a, _, rfl, .inl (SqL.of haA), _, _, rfl, rfl, (by show 1 ≤ sizeLine; decide), fun q nq => ?_⟩
              rw [List.length_map, hl]
              exact k.ret _ q Tt (A.fr _ nq) (A.on (snew nq)) (IntsAt.new (congrArg (fun z => [V.int z]) (nsucc t.length)))
          · rw [List.length_map, hl] at c
            have c3 : VapktBase.RULES ≤ t.length := by
              have := of_decide_eq_true c
              show 8 ≤ t.length
              omega
            rw [if_pos c3] at k
            exact k.no d s1 nd
        · replace k : Told T.cDesk T.cRef T.cNR H D Tt Q E (st, [-1]) := by
            have k := k
            rw [e] at k
            exact k
          exact k.bads d s1
      · rw [List.length_map, hl] at c
        simp at c
        omega
    · exact ifF (decide_eq_false c1) ⟨_, rfl, _, rfl, _, _, rfl, fun c => (by cases c), fun _ => no fun z => c1 z.1⟩
def aTake (st : State) (i : Nat) (z : Int) : State × List Int := match Vapktb.belowN z (Vapktb.tableAt st i).length with
  | none => (st, [-3])
  | some j => Vapktb.setTable st i ((Vapktb.tableAt st i).eraseIdx j) [Vapktb.int ((Vapktb.tableAt st i).length - 1)]
theorem ok_Desk_take_rule (T : Txt K mg) : FnOk P w K mg base (L2.CX P w) 4 T.Desk_take_rule.f T.Desk_take_rule.fd ["self", "which", "number"] (spDZ T.cDesk T.cRef T.cNR aTake) := by
  refine T.Desk_take_rule.fn.okX sc_Desk_take_rule (fun vs H Q E h => ?_) (fun cdv A outer s H vs Q E hr h => ⟨_, (pss_cons (ps_set (i := 3) sc_Desk_take_rule.nd rfl (Or.inl rfl) (pe_ix ix_list (pe_fld (pv 0) rfl) (pv 1) (fun _ _ => rfl)))
      (pss_cons (ps_expr (pe_call (ok_refuse_if T) (hr.mono (by decide)) rfl T.refuse_if.gl T.refuse_if.kp T.refuse_if.bd .nil (passes_call (takes_of rfl rfl rfl rfl) (fun _ _ _ _ h => h)) (pa_cons (pe_not (pe_chain op_le op_lt pe_int (pv 2) (pe_callB call_len_seq (by rfl) T.zlen PySem.boot_len (pa_cons (pv 3) pa_nil)))) (pa_cons (pe_un un_neg pe_int) pa_nil))))
      (pss_cons (ps_asg (pe_call (ok_without T) (hr.mono (by decide)) rfl T.without.gl T.without.kp T.without.bd .nil pass0 (pa_cons (pv 3) (pa_cons (pv 2) pa_nil))) (pg_sub (pe_fld (pv 0) rfl) (pv 1) set_list))
      (pss_one (ps_ret (pe_lst (pa_cons (pe_op op_sub (pe_callB call_len_seq (by rfl) T.zlen PySem.boot_len (pa_cons (pv 3) pa_nil)) pe_int) pa_nil))))))), ?_⟩)
  · obtain ⟨D, Tt, st, i, z, rfl, _⟩ := h
    rfl
  · obtain ⟨D, Tt, st, i, z, rfl, d, hi, k⟩ := h
    obtain ⟨dx, xs, a, hD, hT, hat, hix, ht, wf, hn1, hn7⟩ := d.view hi
    unfold aTake at k
    generalize Vapktb.tableAt st i = t at ht wf k
    obtain ⟨as, ha, hp⟩ := ht
    have hl := Paired.len hp
    have w8 := wf.1
    have no : ¬ (0 ≤ z ∧ z < (t.length : Int)) → ∀ d', H d' = none → E (.ref T.cRef) (some d') (upd H d' (.xd [(("why" : Str), .int (-3))])) := fun c d' nd => by
      rw [below_none c] at k
      exact k.no d (Same.refl H) nd
    refine ⟨_, rfl, _, _, _, _, _, rfl, hD, T.kDesk, T.nDesk_tables, dk_tables, _, rfl, _, _, _, _, rfl, rfl, SqL.of (hT), hat, _, rfl, _, _, rfl, rfl, _, rfl, ?_⟩
    by_cases c1 : 0 ≤ z
    · refine ifT (decide_eq_true c1) ⟨_, rfl, a, _, rfl, .inl (SqL.of ha), _, _, rfl, rfl, _, rfl, _, rfl, _, _, rfl, fun c => ?_, fun c => no fun q => ?_⟩
      · rw [List.length_map, hl] at c
        have c2 : z < t.length := by simpa using c
        obtain ⟨j, rfl⟩ := nat_of c1
        have hj : j < t.length := by omega
        rw [below_some hj] at k
        refine ⟨_, rfl, _, rfl, a, t, j, rfl, ⟨as, ha, hp⟩, by omega, fun H1 p f1 s1 hp1 => ?_⟩
        have A := After.put d s1 hT hp1 (erase_wf wf) hi (.inl f1)
        refine ⟨_, rfl, _, _, _, _, _, rfl, s1 _ _ hD, T.kDesk, T.nDesk_tables, dk_tables, _, rfl, Tt, xs, _, i, rfl, rfl, s1 _ _ hT, hix, ?_⟩
        have haA : upd H1 Tt (.lst (xs.set i (.ref p))) a = some (.lst (as.map V.ref)) := by
          have ne : a ≠ Tt := by
            obtain ⟨_, a0, a1, t0, t1, n, _, _, q2, q3, _⟩ := d
            exact tab_ne q2 q3 ⟨as, ha, hp⟩
          rw [upd_ne ne]
          exact s1 _ _ ha
        refine ⟨_, rfl, a, _, rfl, .inl (SqL.of haA), _, _, rfl, rfl, (by show 1 ≤ sizeLine; decide), fun q nq => ?_⟩
        rw [List.length_map, hl]
        refine k.ret _ q Tt (A.fr _ nq) (A.on (snew nq)) (IntsAt.new (congrArg (fun z => [V.int z]) ?_))
        show (t.length : Int) - 1 = ((t.length - 1 : Nat) : Int)
        omega
      · rw [List.length_map, hl] at c
        simp at c
        omega
    · exact ifF (decide_eq_false c1) ⟨_, rfl, _, rfl, _, _, rfl, fun c => (by cases c), fun _ => no fun z => c1 z.1⟩
end
end Rt

/-! does, own, turn, why_told, many_counted, idle, small -/
namespace Rt
open PySem PySem.Spec PyProof.Rows L2
open VapktBase (Rule Action Table Rewrite)
open Vapktb (State)
section
variable {P : Program} {w : World} {K : PySem.W.Frag} {mg : Str → Option Value} {base : Heap}
def onH (st : State) (i : Nat) (z : Int) (f : Table → Nat → List Int) : State × List Int := (st, match Vapktb.belowN z (VapktBase.headers st.wide) with
  | none => [-3]
  | some k => f (Vapktb.tableAt st i) k)
theorem onH_no {st : State} {i : Nat} {z : Int} {f : Table → Nat → List Int} (h : ¬ (0 ≤ z ∧ z < ((2 ^ st.wide : Nat) : Int))) : onH st i z f = (st, [-3]) := by
  unfold onH VapktBase.headers
  rw [below_none h]
theorem onH_yes {st : State} {i k : Nat} {f : Table → Nat → List Int} (h : k < 2 ^ st.wide) : onH st i (k : Nat) f = (st, f (Vapktb.tableAt st i) k) := by
  unfold onH VapktBase.headers
  rw [below_some h]
def aDoes (st : State) (i : Nat) (z : Int) : State × List Int := onH st i z Vapktb.outcomeTold
theorem does_hole {t : Table} {h : Nat} (e : cnt t h = t.length) : Vapktb.outcomeTold t h = [0] := by
  unfold cnt at e
  unfold Vapktb.outcomeTold
  cases q : VapktBase.ruleFor t h with
  | none => rfl
  | some i =>
    have := cnt_lt q
    rw [q] at e
    have e : i = t.length := e
    omega
theorem does_some {t : Table} {h : Nat} (e : cnt t h ≠ t.length) : Vapktb.outcomeTold t h = match Vapktb.outcome t h with
    | .sent p k => [2, ((cnt t h : Nat) : Int), (p : Nat), (k : Nat)]
    | _ => [1, ((cnt t h : Nat) : Int)] := by
  obtain ⟨r, _, _, hf⟩ := out_at e
  unfold Vapktb.outcomeTold
  rw [hf]
  rfl
theorem out_some {t : Table} {h : Nat} (e : cnt t h ≠ t.length) : Vapktb.outcome t h ≠ .hole := by
  obtain ⟨r, _, ho, _⟩ := out_at e
  rw [ho]
  cases r.action <;> intro z <;> cases z
theorem cut1 {x : V} {l : List V} : cutV (x :: l) (some 1) none = l := cut_from (x :: l) 1
theorem ok_Desk_does (T : Txt K mg) : FnOk P w K mg base (L2.CX P w) 4 T.Desk_does.f T.Desk_does.fd ["self", "which", "header"] (spDZ T.cDesk T.cRef T.cNR aDoes) := by
  refine T.Desk_does.fn.okX sc_Desk_does (fun vs H Q E h => ?_) (fun cdv A outer s H vs Q E hr h => ⟨_, (pss_cons (ps_set (i := 3) sc_Desk_does.nd rfl (Or.inl rfl) (pe_ix ix_list (pe_fld (pv 0) rfl) (pv 1) (fun _ _ => rfl)))
      (pss_cons (ps_expr (pe_call (ok_refuse_if T) (hr.mono (by decide)) rfl T.refuse_if.gl T.refuse_if.kp T.refuse_if.bd .nil (passes_call (takes_of rfl rfl rfl rfl) (fun _ _ _ _ h => h)) (pa_cons (pe_not (pe_chain op_le op_lt pe_int (pv 2) (pe_op op_shl pe_int (pe_fld (pv 0) rfl)))) (pa_cons (pe_un un_neg pe_int) pa_nil))))
      (pss_cons (ps_set (i := 4) sc_Desk_does.nd rfl (Or.inl rfl) (pe_call (ok_outcome T) (hr.mono (by decide)) rfl T.outcome.gl T.outcome.kp T.outcome.bd .nil pass0 (pa_cons (pv 3) (pa_cons (pv 2) pa_nil))))
      (pss_cons (ps_if (pt_cmpR op_eq (pe_ix ix_tup (pv 4) pe_int (fun _ _ => rfl)) (pgi rfl T.cHOLE) (nomark _)) (pss_one (ps_ret (pe_lst (pa_cons pe_int pa_nil)))) pss_nil)
      (pss_one (ps_ret (pe_op op_cat (pe_lst (pa_cons (pe_ix ix_tup (pv 4) pe_int (fun _ _ => rfl)) (pa_cons (pe_call (ok_counting T) (hr.mono (by decide)) rfl T.counting.gl T.counting.kp T.counting.bd .nil pass0 (pa_cons (pv 3) (pa_cons (pv 2) pa_nil))) pa_nil))) (pe_callTy call_list_of (by rfl) T.zlist (by decide +kernel) (pa_cons (pe_slice sl_tupA (pv 4) (po_some pe_int) po_none) pa_nil))))))))), ?_⟩)
  · obtain ⟨D, Tt, st, i, z, rfl, _⟩ := h
    rfl
  · obtain ⟨D, Tt, st, i, z, rfl, d, hi, k⟩ := h
    obtain ⟨dx, xs, a, hD, hT, hat, hix, ht, wf, hn1, hn7⟩ := d.view hi
    have no : ¬ (0 ≤ z ∧ z < ((2 ^ st.wide : Nat) : Int)) → ∀ d', H d' = none → E (.ref T.cRef) (some d') (upd H d' (.xd [(("why" : Str), .int (-3))])) := fun c d' nd => by
      unfold aDoes at k
      rw [onH_no c] at k
      exact k.no d (Same.refl H) nd
    refine ⟨_, rfl, _, _, _, _, _, rfl, hD, T.kDesk, T.nDesk_tables, dk_tables, _, rfl, _, _, _, _, rfl, rfl, SqL.of (hT), hat, _, rfl, _, _, rfl, rfl, _, rfl, ?_⟩
    by_cases c1 : 0 ≤ z
    · refine ifT (decide_eq_true c1) ⟨_, rfl, _, _, _, _, _, rfl, hD, T.kDesk, T.nDesk_bits, dk_bits, _, _, rfl, rfl, cpow1 hn7, _, _, rfl, rfl, _, rfl, _, rfl, _, _, rfl, ?_⟩
      rw [shl1]
      refine ⟨fun c => ?_, fun c => no fun q => ?_⟩
      · have c2 : z < ((2 ^ st.wide : Nat) : Int) := by
          generalize ((2 ^ st.wide : Nat) : Int) = m at c
          simpa using c
        obtain ⟨j, rfl⟩ := nat_of c1
        have c2 := Int.ofNat_lt.mp c2
        have e : aDoes st i (j : Nat) = _ := onH_yes c2
        rw [e] at k
        generalize Vapktb.tableAt st i = t at ht wf k
        refine ⟨_, rfl, _, rfl, a, t, j, rfl, ht, fun H1 p s1 ho => ?_⟩
        unfold OutAt at ho
        by_cases c3 : cnt t j = t.length
        · rw [does_hole c3] at k
          rw [out_hole c3] at ho
          refine ⟨_, rfl, p, _, _, _, rfl, rfl, SqT.of ho, rfl, rfl, _, rfl, ?_⟩
          exact ⟨(by show 1 ≤ sizeLine; decide), fun q nq => k.same d (s1.free nq) (s1.trans (snew nq)) (IntsAt.new rfl)⟩
        · rw [does_some c3] at k
          have nh := out_some c3
          cases o : Vapktb.outcome t j with
          | hole => exact absurd o nh
          | dropped =>
            rw [o] at k ho
            refine ⟨_, rfl, p, _, _, _, rfl, rfl, SqT.of ho, rfl, rfl, _, rfl, ?_⟩
            refine ⟨_, rfl, p, _, _, _, rfl, rfl, SqT.of ho, rfl, _, rfl, _, rfl, a, t, j, rfl, TabAt.same s1 ht, fun H2 s2 => ⟨(by show 2 ≤ sizeLine; decide), fun q nq => ?_⟩⟩
            have s3 := snew (o := .lst [.int 1, .int (cnt t j : Nat)]) nq
            have ho3 := s3 _ _ (s2 _ _ ho)
            refine ⟨_, rfl, _, rfl, p, _, rfl, SqT.of ho3, fun c => absurd c.1 (by decide), fun _ r nr => ?_⟩
            have s4 := snew (o := .tup (cutV (outV .dropped) (some 1) none)) nr
            refine ⟨r, _, rfl, .inr (SqT.of upd_same), fun r2 n2 => ?_⟩
            have s5 := snew (o := .lst (cutV (outV .dropped) (some 1) none)) n2
            have st' := ((s1.trans s2).trans s3).trans (s4.trans s5)
            refine ⟨q, r2, _, _, rfl, rfl, s5 _ _ (s4 _ _ upd_same), upd_same, size1000' ?_, fun r3 n3 => k.same d (st'.free n3) (st'.trans (snew n3)) (IntsAt.new rfl)⟩
            · show 2 + 0 ≤ _
              decide
          | sent p' k' =>
            rw [o] at k ho
            refine ⟨_, rfl, p, _, _, _, rfl, rfl, SqT.of ho, rfl, rfl, _, rfl, ?_⟩
            refine ⟨_, rfl, p, _, _, _, rfl, rfl, SqT.of ho, rfl, _, rfl, _, rfl, a, t, j, rfl, TabAt.same s1 ht, fun H2 s2 => ⟨(by show 2 ≤ sizeLine; decide), fun q nq => ?_⟩⟩
            have s3 := snew (o := .lst [.int 2, .int (cnt t j : Nat)]) nq
            have ho3 := s3 _ _ (s2 _ _ ho)
            refine ⟨_, rfl, _, rfl, p, _, rfl, SqT.of ho3, fun c => absurd c.1 (by show ¬ (HT.sIx 3 0 (some 1) = 0); decide), fun _ r nr => ?_⟩
            have s4 := snew (o := .tup (cutV (outV (.sent p' k')) (some 1) none)) nr
            refine ⟨r, _, rfl, .inr (SqT.of upd_same), fun r2 n2 => ?_⟩
            have s5 := snew (o := .lst (cutV (outV (.sent p' k')) (some 1) none)) n2
            have st' := ((s1.trans s2).trans s3).trans (s4.trans s5)
            refine ⟨q, r2, _, _, rfl, rfl, s5 _ _ (s4 _ _ upd_same), upd_same, size1000' ?_, fun r3 n3 => k.same d (st'.free n3) (st'.trans (snew n3)) (IntsAt.new rfl)⟩
            · show 2 + 2 ≤ _
              decide
      · generalize ((2 ^ st.wide : Nat) : Int) = m at c q
        simp at c
        omega
    · exact ifF (decide_eq_false c1) ⟨_, rfl, _, rfl, _, _, rfl, fun c => (by cases c), fun _ => no fun z => c1 z.1⟩
def aOwn (st : State) (i : Nat) (z : Int) : State × List Int := (st, match Vapktb.belowN z (Vapktb.tableAt st i).length with
  | none => [-3]
  | some j => Vapktb.setTold st.wide (Vapktb.ownSet st.wide (Vapktb.tableAt st i) j))
theorem hds128 {n : Nat} (h : n ≤ 7) (f : Nat → Bool) : (hds n f).length ≤ 1000 := by
  have := hds_len n f
  have := pow_le h
  omega
theorem ok_Desk_own (T : Txt K mg) : FnOk P w K mg base (L2.CX P w) 10 T.Desk_own.f T.Desk_own.fd ["self", "which", "number"] (spDZ T.cDesk T.cRef T.cNR aOwn) := by
  refine T.Desk_own.fn.okX sc_Desk_own (fun vs H Q E h => ?_) (fun cdv A outer s H vs Q E hr h => ⟨_, (pss_cons (ps_expr (pe_call (ok_refuse_if T) (hr.mono (by decide)) rfl T.refuse_if.gl T.refuse_if.kp T.refuse_if.bd .nil (passes_call (takes_of rfl rfl rfl rfl) (fun _ _ _ _ h => h)) (pa_cons (pe_not (pe_chain op_le op_lt pe_int (pv 2) (pe_callB call_len_seq (by rfl) T.zlen PySem.boot_len (pa_cons (pe_ix ix_list (pe_fld (pv 0) rfl) (pv 1) (fun _ _ => rfl)) pa_nil)))) (pa_cons (pe_un un_neg pe_int) pa_nil))))
      (pss_one (ps_ret (pe_call (ok_set_numbers T) (hr.mono (by decide)) rfl T.set_numbers.gl T.set_numbers.kp T.set_numbers.bd .nil pass0 (pa_cons (pe_call (ok_own_headers T) (hr.mono (by decide)) rfl T.own_headers.gl T.own_headers.kp T.own_headers.bd .nil pass0 (pa_cons (pe_ix ix_list (pe_fld (pv 0) rfl) (pv 1) (fun _ _ => rfl)) (pa_cons (pv 2) (pa_cons (pe_fld (pv 0) rfl) pa_nil)))) (pa_cons (pe_fld (pv 0) rfl) pa_nil)))))), ?_⟩)
  · obtain ⟨D, Tt, st, i, z, rfl, _⟩ := h
    rfl
  · obtain ⟨D, Tt, st, i, z, rfl, d, hi, k⟩ := h
    obtain ⟨dx, xs, a, hD, hT, hat, hix, ht, wf, hn1, hn7⟩ := d.view hi
    unfold aOwn at k
    generalize Vapktb.tableAt st i = t at ht wf k
    have ht' := ht
    obtain ⟨as, ha, hp⟩ := ht
    have hl := Paired.len hp
    have no : ¬ (0 ≤ z ∧ z < (t.length : Int)) → ∀ d', H d' = none → E (.ref T.cRef) (some d') (upd H d' (.xd [(("why" : Str), .int (-3))])) := fun c d' nd => by
      rw [below_none c] at k
      exact k.no d (Same.refl H) nd
    refine ⟨_, rfl, _, _, rfl, rfl, _, rfl, ?_⟩
    by_cases c1 : 0 ≤ z
    · refine ifT (decide_eq_true c1) ⟨_, rfl, _, _, _, _, _, rfl, hD, T.kDesk, T.nDesk_tables, dk_tables, _, rfl, _, _, _, _, rfl, rfl, SqL.of (hT), hat, a, _, rfl, .inl (SqL.of ha), _, _, rfl, rfl, _, rfl, _, rfl, _, _, rfl, fun c => ?_, fun c => no fun q => ?_⟩
      · rw [List.length_map, hl] at c
        have c2 : z < t.length := by simpa using c
        obtain ⟨j, rfl⟩ := nat_of c1
        have hj : j < t.length := by omega
        rw [below_some hj] at k
        have k : Told T.cDesk T.cRef T.cNR H D Tt Q E (st, Vapktb.setTold st.wide (Vapktb.ownSet st.wide t j)) := k
        rw [own_told hj] at k
        refine ⟨_, rfl, _, _, _, _, _, rfl, hD, T.kDesk, T.nDesk_tables, dk_tables, _, rfl, _, _, _, _, rfl, rfl, SqL.of (hT), hat, _, rfl, _, rfl, _, _, _, _, _, rfl, hD, T.kDesk, T.nDesk_bits, dk_bits, a, t, j, st.wide, rfl, ht', hn7, fun H1 p s1 hp1 => ?_⟩
        refine ⟨_, rfl, _, _, _, _, _, rfl, s1 _ _ hD, T.kDesk, T.nDesk_bits, dk_bits, p, _, st.wide, rfl, SqL.of hp1, hn7, hds128 hn7 _, fun H2 q fq s2 hq => k.same d (s1.free fq) (s1.trans s2) hq⟩
      · rw [List.length_map, hl] at c
        simp at c
        omega
    · exact ifF (decide_eq_false c1) ⟨_, rfl, _, rfl, _, _, rfl, fun c => (by cases c), fun _ => no fun z => c1 z.1⟩
def aTurn (st : State) (i : Nat) (z : Int) : State × List Int := (st, match Vapktb.belowN z ((Vapktb.tableAt st i).length - 1) with
  | none => [-3]
  | some j => [if Vapktb.canTurn st.wide (Vapktb.tableAt st i) j then 1 else 0])
theorem ok_Desk_turn (T : Txt K mg) : FnOk P w K mg base (L2.CX P w) 5 T.Desk_turn.f T.Desk_turn.fd ["self", "which", "number"] (spDZ T.cDesk T.cRef T.cNR aTurn) := by
  refine T.Desk_turn.fn.okX sc_Desk_turn (fun vs H Q E h => ?_) (fun cdv A outer s H vs Q E hr h => ⟨_, (pss_cons (ps_set (i := 3) sc_Desk_turn.nd rfl (Or.inl rfl) (pe_ix ix_list (pe_fld (pv 0) rfl) (pv 1) (fun _ _ => rfl)))
      (pss_cons (ps_expr (pe_call (ok_refuse_if T) (hr.mono (by decide)) rfl T.refuse_if.gl T.refuse_if.kp T.refuse_if.bd .nil (passes_call (takes_of rfl rfl rfl rfl) (fun _ _ _ _ h => h)) (pa_cons (pe_not (pe_chain op_le op_lt pe_int (pv 2) (pe_op op_sub (pe_callB call_len_seq (by rfl) T.zlen PySem.boot_len (pa_cons (pv 3) pa_nil)) pe_int))) (pa_cons (pe_un un_neg pe_int) pa_nil))))
      (pss_one (ps_ret (pe_lst (pa_cons (pe_callTy call_int1 (by rfl) T.zint (by decide +kernel) (pa_cons (pe_cmpR (op_eqD hr.units) (pe_call (ok_outcomes T) (hr.mono (by decide)) rfl T.outcomes.gl T.outcomes.kp T.outcomes.bd .nil pass0 (pa_cons (pe_call (ok_exchanged T) (hr.mono (by decide)) rfl T.exchanged.gl T.exchanged.kp T.exchanged.bd .nil pass0 (pa_cons (pv 3) (pa_cons (pv 2) pa_nil))) (pa_cons (pe_fld (pv 0) rfl) pa_nil))) (pe_call (ok_outcomes T) (hr.mono (by decide)) rfl T.outcomes.gl T.outcomes.kp T.outcomes.bd .nil pass0 (pa_cons (pv 3) (pa_cons (pe_fld (pv 0) rfl) pa_nil))) (nomark _)) pa_nil)) pa_nil)))))), ?_⟩)
  · obtain ⟨D, Tt, st, i, z, rfl, _⟩ := h
    rfl
  · obtain ⟨D, Tt, st, i, z, rfl, d, hi, k⟩ := h
    obtain ⟨dx, xs, a, hD, hT, hat, hix, ht, wf, hn1, hn7⟩ := d.view hi
    unfold aTurn at k
    generalize Vapktb.tableAt st i = t at ht wf k
    have ht' := ht
    obtain ⟨as, ha, hp⟩ := ht
    have hl := Paired.len hp
    have w8 := wf.1
    have no : ¬ (0 ≤ z ∧ z < ((t.length - 1 : Nat) : Int)) → ∀ d', H d' = none → E (.ref T.cRef) (some d') (upd H d' (.xd [(("why" : Str), .int (-3))])) := fun c d' nd => by
      rw [below_none c] at k
      exact k.no d (Same.refl H) nd
    refine ⟨_, rfl, _, _, _, _, _, rfl, hD, T.kDesk, T.nDesk_tables, dk_tables, _, rfl, _, _, _, _, rfl, rfl, SqL.of (hT), hat, _, rfl, _, _, rfl, rfl, _, rfl, ?_⟩
    by_cases c1 : 0 ≤ z
    · refine ifT (decide_eq_true c1) ⟨_, rfl, a, _, rfl, .inl (SqL.of ha), _, _, rfl, rfl, _, _, rfl, rfl, _, rfl, _, rfl, _, _, rfl, fun c => ?_, fun c => no fun q => ?_⟩
      · rw [List.length_map, hl] at c
        have c2 : z < (t.length : Int) - 1 := by simpa using c
        obtain ⟨j, rfl⟩ := nat_of c1
        have hj : j + 1 < t.length := by omega
        rw [below_some (show j < t.length - 1 by omega)] at k
        have k : Told T.cDesk T.cRef T.cNR H D Tt Q E (st, [if Vapktb.canTurn st.wide t j then 1 else 0]) := k
        refine ⟨_, rfl, _, rfl, a, t, j, rfl, ht', by omega, hj, fun H1 p s1 hp1 => ?_⟩
        refine ⟨_, rfl, _, _, _, _, _, rfl, s1 _ _ hD, T.kDesk, T.nDesk_bits, dk_bits, p, _, st.wide, rfl, hp1, hn7, fun H2 q s2 hq => ?_⟩
        have s12 := s1.trans s2
        refine ⟨_, rfl, _, rfl, _, _, _, _, _, rfl, s12 _ _ hD, T.kDesk, T.nDesk_bits, dk_bits, a, t, st.wide, rfl, TabAt.same s12 ht', hn7, fun H3 r s3 hr => ?_⟩
        refine ⟨_, _, dp_outs (LstAt.imp (fun _ _ z => OutAt.same s3 z) (fun _ e => s3 _ _ e) hq), dp_outs hr, sh_outs _, sh_outs _, .inr ⟨_, rfl, (by show 1 ≤ sizeLine; decide), fun u nu => ?_⟩⟩
        have e : PyData.eqv (.list ((outs st.wide (Vapktb.turned t j)).map outD)) (.list ((outs st.wide t).map outD)) = Vapktb.canTurn st.wide t j := by
          rw [eqv_outs, same_eq]
          rfl
        rw [e]
        have s13 := s12.trans s3
        refine k.same d (s13.free nu) (s13.trans (snew nu)) (IntsAt.new ?_)
        cases Vapktb.canTurn st.wide t j <;> rfl
      · rw [List.length_map, hl] at c
        simp at c
        omega
    · exact ifF (decide_eq_false c1) ⟨_, rfl, _, rfl, _, _, rfl, fun c => (by cases c), fun _ => no fun z => c1 z.1⟩
end
end Rt

/-! why_told, many_counted, idle, small, apart -/
namespace Rt
open PySem PySem.Spec PyProof.Rows L2
open VapktBase (Rule Action Table Rewrite)
open Vapktb (State)
section
variable {P : Program} {w : World} {K : PySem.W.Frag} {mg : Str → Option Value} {base : Heap}
def rLenS (K : PySem.W.Frag) : List V → Hp → VK → Prop := fun xs H Q => ∃ p ys, xs = [V.ref p] ∧ (SqL K H p ys ∨ SqT K H p ys) ∧ Q (.int ys.length) H
def aWhy (st : State) (i : Nat) (z : Int) : State × List Int := onH st i z fun t k => Vapktb.listed (Vapktb.whyNot st.wide t k)
theorem take_no {t : Table} {h : Nat} {r : Rule} (hr : r ∈ t.take (cnt t h)) : VapktBase.matchesIt r.pattern h = false := by
  unfold cnt at hr
  cases q : VapktBase.ruleFor t h with
  | none =>
    unfold VapktBase.ruleFor at q
    rw [List.findIdx?_eq_none_iff] at q
    exact q r (List.mem_of_mem_take hr)
  | some i =>
    rw [q] at hr
    unfold VapktBase.ruleFor at q
    rw [List.findIdx?_eq_some_iff_getElem] at q
    obtain ⟨hi, _, b⟩ := q
    obtain ⟨j, hj, e⟩ := List.mem_take_iff_getElem.mp hr
    have hji : j < i := by
      have hj : j < min i t.length := hj
      omega
    have := b j hji
    rw [e] at this
    simpa using this
def whyI (t : Table) (h : Nat) : List Int := (t.take (cnt t h)).map fun r => ((hb ((h ^^^ r.pattern.bits) &&& r.pattern.told) : Nat) : Int) - 1
theorem why_eq {w : Nat} {t : Table} {h : Nat} (wf : WFT w t) : Vapktb.listed (Vapktb.whyNot w t h) = ((whyI t h).length : Int) :: whyI t h := by
  have e : (Vapktb.whyNot w t h).map Vapktb.int = whyI t h := by
    unfold Vapktb.whyNot whyI
    rw [List.map_map]
    refine List.map_congr_left fun r hr => ?_
    exact miss_told (wf.2 r (List.mem_of_mem_take hr)).1 (take_no hr)
  unfold Vapktb.listed
  rw [e]
  refine congrArg (fun x => x :: whyI t h) ?_
  rw [← e, List.length_map]
  rfl
theorem ok_Desk_why_told (T : Txt K mg) : FnOk P w K mg base (L2.CX P w) 4 T.Desk_why_told.f T.Desk_why_told.fd ["self", "which", "header"] (spDZ T.cDesk T.cRef T.cNR aWhy) := by
  refine T.Desk_why_told.fn.okX sc_Desk_why_told (fun vs H Q E h => ?_) (fun cdv A outer s H vs Q E hr h => ⟨_, (pss_cons (ps_expr (pe_call (ok_refuse_if T) (hr.mono (by decide)) rfl T.refuse_if.gl T.refuse_if.kp T.refuse_if.bd .nil (passes_call (takes_of rfl rfl rfl rfl) (fun _ _ _ _ h => h)) (pa_cons (pe_not (pe_chain op_le op_lt pe_int (pv 2) (pe_op op_shl pe_int (pe_fld (pv 0) rfl)))) (pa_cons (pe_un un_neg pe_int) pa_nil))))
      (pss_cons (ps_set (i := 3) sc_Desk_why_told.nd rfl (Or.inl rfl) (pe_ix ix_list (pe_fld (pv 0) rfl) (pv 1) (fun _ _ => rfl)))
      (pss_one (ps_ret (pe_call (ok_counted T) (hr.mono (by decide)) rfl T.counted.gl T.counted.kp T.counted.bd .nil pass0 (pa_cons (pe_lc (own := [("rule", 4)]) rfl sc_Desk_why_told.nd (pi_list (pe_slice sl_list (pv 3) po_none (po_some (pe_call (ok_counting T) (hr.mono (by decide)) rfl T.counting.gl T.counting.kp T.counting.bd .nil pass0 (pa_cons (pv 3) (pa_cons (pv 2) pa_nil)))))) (blkOk_by (own := [("rule", 4)]) (N := ["self", "which", "header", "table", "rule"]) (sc := defScope s_Desk_why_told) (by decide +kernel)) (fun _ _ _ _ _ => (pg_name (i := 4) sc_Desk_why_told.nd rfl (Or.inl rfl))) (fun _ _ _ _ _ => pts_nil) (fun _ _ _ _ _ => (pe_call (ok_bit_otherwise T) (hr.mono (by decide)) rfl T.bit_otherwise.gl T.bit_otherwise.kp T.bit_otherwise.bd .nil pass0 (pa_cons (pv 2) (pa_cons (pe_ix (r := rIxT K) ix_tup (pv 4) pe_int (fun _ _ => rfl)) pa_nil))))) pa_nil)))))), ?_⟩)
  · obtain ⟨D, Tt, st, i, z, rfl, _⟩ := h
    rfl
  · obtain ⟨D, Tt, st, i, z, rfl, d, hi, k⟩ := h
    obtain ⟨dx, xs, a, hD, hT, hat, hix, ht, wf, hn1, hn7⟩ := d.view hi
    have no : ¬ (0 ≤ z ∧ z < ((2 ^ st.wide : Nat) : Int)) → ∀ d', H d' = none → E (.ref T.cRef) (some d') (upd H d' (.xd [(("why" : Str), .int (-3))])) := fun c d' nd => by
      unfold aWhy at k
      rw [onH_no c] at k
      exact k.no d (Same.refl H) nd
    refine ⟨_, rfl, _, _, rfl, rfl, _, rfl, ?_⟩
    by_cases c1 : 0 ≤ z
    · refine ifT (decide_eq_true c1) ⟨_, rfl, _, _, _, _, _, rfl, hD, T.kDesk, T.nDesk_bits, dk_bits, _, _, rfl, rfl, cpow1 hn7, _, _, rfl, rfl, _, rfl, _, rfl, _, _, rfl, ?_⟩
      rw [shl1]
      refine ⟨fun c => ?_, fun c => no fun q => ?_⟩
      · have c2 : z < ((2 ^ st.wide : Nat) : Int) := by
          generalize ((2 ^ st.wide : Nat) : Int) = m at c
          simpa using c
        obtain ⟨j, rfl⟩ := nat_of c1
        have c2 := Int.ofNat_lt.mp c2
        have e : aWhy st i (j : Nat) = _ := onH_yes c2
        rw [e] at k
        generalize Vapktb.tableAt st i = t at ht wf k
        have k : Told T.cDesk T.cRef T.cNR H D Tt Q E (st, Vapktb.listed (Vapktb.whyNot st.wide t j)) := k
        rw [why_eq wf] at k
        have w8 := wf.1
        refine ⟨_, rfl, _, _, _, _, _, rfl, hD, T.kDesk, T.nDesk_tables, dk_tables, _, rfl, _, _, _, _, rfl, rfl, SqL.of (hT), hat, _, rfl, _, rfl, _, rfl, a, t, j, rfl, ht, fun H1 s1 => ?_⟩
        obtain ⟨as, ha, hp⟩ := ht
        have hl := Paired.len hp
        refine ⟨_, rfl, a, _, rfl, SqL.of (s1 _ _ ha), fun p1 n1 => ?_⟩
        have s2 := snew (o := .lst ((as.take (cnt t j)).map V.ref)) n1
        have s12 := s1.trans s2
        rw [cutR_to]
        refine ⟨p1, rfl, ⟨_, SqL.of upd_same⟩, fun D1 m1 => ?_⟩
        refine lc_list (xs := (as.take (cnt t j)).map V.ref) (fun i H' => GrownI (upd H1 p1 (.lst ((as.take (cnt t j)).map V.ref))) H' D1 ((whyI t j).take i)) (GrownI.start (Same.refl _) m1) (fun i H' _ g => SqL.of (g.same _ _ upd_same)) (fun i x H' hx g => ?_) (fun H2 g => ?_)
        · obtain ⟨ra, hra, rfl⟩ := refs_of_at hx
          have hp' := Paired.take (cnt t j) hp
          obtain ⟨r, hr, b1, q1, h1, h2, h3⟩ := Paired.at' hp' hra
          have sg := s12.trans g.same
          refine ⟨rfl, _, rfl, _, rfl, ra, _, _, _, rfl, rfl, SqT.of (sg _ _ h1), rfl, j, b1, r.pattern, rfl, sg _ _ h2, ?_⟩
          obtain ⟨l, g1, g2, g3⟩ := g.more (z := ((hb ((j ^^^ r.pattern.bits) &&& r.pattern.told) : Nat) : Int) - 1) (Same.refl _)
          refine ⟨l, g1, size1000 ?_, ?_⟩
          · have : (whyI t j).length ≤ 8 := by unfold whyI; rw [List.length_map, List.length_take]; omega
            rw [g2, List.length_take]
            omega
          · rw [take_one (l := whyI t j) (x := ((hb ((j ^^^ r.pattern.bits) &&& r.pattern.told) : Nat) : Int) - 1) (by unfold whyI; rw [List.getElem?_map, hr]; rfl)]
            exact g3
        · have e8 : (whyI t j).length = (t.take (cnt t j)).length := by unfold whyI; rw [List.length_map]
          have eT : (whyI t j).take ((as.take (cnt t j)).map V.ref).length = whyI t j := by
            rw [List.length_map, Paired.len (Paired.take (cnt t j) hp), ← e8, List.take_length]
          rw [eT] at g
          refine ⟨D1, whyI t j, rfl, SqL.of g.lst, ?_, fun H3 p f3 s3 h3 => k.same d ((s12.trans g.same).free f3) ((s12.trans g.same).trans s3) h3⟩
          rw [e8, List.length_take]
          omega
      · generalize ((2 ^ st.wide : Nat) : Int) = m at c q
        simp at c
        omega
    · exact ifF (decide_eq_false c1) ⟨_, rfl, _, rfl, _, _, rfl, fun c => (by cases c), fun _ => no fun z => c1 z.1⟩
def spMany (C : Addr) : Sp := fun vs H Q _ => ∃ (D Tt : Addr) (st : State) (i : Nat), vs = [.ref D, .int (i : Nat)] ∧ DeskAt C H D Tt st ∧ i < 2 ∧ ∀ H' p, Same H H' → H' p = some (.lst (natV (manyOf st.wide (Vapktb.tableAt st i)))) → Q (.ref p) H'
theorem ok_Desk_many_counted (T : Txt K mg) : FnOk P w K mg base CX0 4 T.Desk_many_counted.f T.Desk_many_counted.fd ["self", "which"] (spMany T.cDesk) := by
  refine T.Desk_many_counted.fn.ok sc_Desk_many_counted (fun vs H Q E h => ?_) (fun cdv A outer s H vs Q E hr h => ⟨_, (pss_cons (ps_set (i := 2) sc_Desk_many_counted.nd rfl (Or.inr rfl) (pe_ix ix_list (pe_fld (pv 0) rfl) (pv 1) (fun _ _ => rfl)))
      (pss_one (ps_ret (pe_lc (own := [("number", 3)]) rfl sc_Desk_many_counted.nd (pi_range1 rfl T.zrange (pa_cons (pe_op op_add (pe_callB call_len_seq (by rfl) T.zlen PySem.boot_len (pa_cons (pv 2) pa_nil)) pe_int) pa_nil)) (blkOk_by (own := [("number", 3)]) (N := ["self", "which", "table", "number"]) (sc := defScope s_Desk_many_counted) (by decide +kernel)) (fun _ _ _ _ _ => (pg_name (i := 3) sc_Desk_many_counted.nd rfl (Or.inl rfl))) (fun _ _ _ _ _ => pts_nil) (fun _ _ _ _ _ => (pe_callB (r := rLenS K) call_len_seq (by rfl) T.zlen PySem.boot_len (pa_cons (pe_call (ok_own_headers T) (hr.mono (by decide)) rfl T.own_headers.gl T.own_headers.kp T.own_headers.bd .nil pass0 (pa_cons (pv 2) (pa_cons (pv 3) (pa_cons (by show PE _ (.Attribute _ _ _) (tFld K (tVar 0) "bits"); exact pe_fld (pv 0) rfl) pa_nil)))) pa_nil))))))), ?_⟩)
  · obtain ⟨D, Tt, st, i, rfl, _⟩ := h
    rfl
  · obtain ⟨D, Tt, st, i, rfl, d, hi, k⟩ := h
    obtain ⟨dx, xs, a, hD, hT, hat, hix, ht, wf, hn1, hn7⟩ := d.view hi
    generalize Vapktb.tableAt st i = t at ht wf k
    have ht' := ht
    obtain ⟨as, ha, hp⟩ := ht
    have hl := Paired.len hp
    have w8 := wf.1
    refine ⟨_, rfl, _, _, _, _, _, rfl, hD, T.kDesk, T.nDesk_tables, dk_tables, _, rfl, _, _, _, _, rfl, rfl, SqL.of (hT), hat, _, rfl, a, _, rfl, .inl (SqL.of ha), _, _, rfl, rfl, ?_⟩
    rw [List.length_map, hl]
    refine ⟨_, rfl, by omega, by omega, fun F nF => ?_⟩
    refine lc_range (lo := 0) (n := _) (fun j H' => GrownI H H' F (natI ((manyOf st.wide t).take j))) (GrownI.start (Same.refl H) nF) (fun j H' hj g => ?_) (fun H' g => ?_)
    · have hj : j < t.length + 1 := by omega
      refine ⟨rfl, _, rfl, _, rfl, _, rfl, _, _, _, _, _, rfl, g.same _ _ hD, T.kDesk, T.nDesk_bits, dk_bits, a, t, j, st.wide, congrArg (fun z => [V.ref a, V.int z, V.int (st.wide : Nat)]) (zadd j), TabAt.same g.same ht', hn7, fun H2 p s2 hp2 => ?_⟩
      refine ⟨p, _, rfl, .inl (SqL.of hp2), ?_⟩
      obtain ⟨l, g1, g2, g3⟩ := g.more (z := ((hds st.wide fun h => cnt t h == j).length : Nat)) s2
      refine ⟨l, g1, size1000 ?_, ?_⟩
      · rw [g2]; unfold natI; rw [List.length_map, List.length_take, manyOf_len]; omega
      · rw [take_one (l := manyOf st.wide t) (x := (hds st.wide fun h => cnt t h == j).length) (by unfold manyOf; rw [List.getElem?_map, List.getElem?_range hj]; rfl), natI_snoc]
        rw [List.length_map]
        unfold natI at g3 ⊢
        rw [List.length_map]
        exact g3
    · have e : ((t.length : Int) + 1).toNat = (manyOf st.wide t).length := by rw [manyOf_len]; omega
      rw [e, List.take_length] at g
      exact k H' F g.same g.lst
theorem cut_last {l : List V} {n : Nat} (h : l.length = n + 1) : cutV l none (some (-1)) = l.take n := by
  unfold cutV
  rw [HT.sIx_none, List.drop_zero, Nat.sub_zero, h]
  congr 1
  unfold HT.sIx
  simp
  omega
def aIdle (st : State) (i : Nat) : State × List Int := (st, Vapktb.listed (Vapktb.idle st.wide (Vapktb.tableAt st i)))
theorem listed_eq (l : List Nat) : Vapktb.listed l = ((natI l).length : Int) :: natI l := by
  unfold Vapktb.listed natI
  rw [List.length_map]
  rfl
theorem ok_Desk_idle (T : Txt K mg) : FnOk P w K mg base CX0 5 T.Desk_idle.f T.Desk_idle.fd ["self", "which"] (spDI T.cDesk T.cRef T.cNR aIdle) := by
  refine T.Desk_idle.fn.ok sc_Desk_idle (fun vs H Q E h => ?_) (fun cdv A outer s H vs Q E hr h => ⟨_, (pss_cons (ps_set (i := 2) sc_Desk_idle.nd rfl (Or.inr rfl) (pe_slice sl_list (pe_meth (pv 0) T.kDesk T.Desk_many_counted.me (ok_Desk_many_counted T) (hr.mono (by decide)) T.Desk_many_counted.bd .nil pass0 (pa_cons (pv 1) pa_nil)) po_none (po_some (pe_un un_neg pe_int))))
      (pss_one (ps_ret (pe_call (ok_counted T) (hr.mono (by decide)) rfl T.counted.gl T.counted.kp T.counted.bd .nil pass0 (pa_cons (pe_lc (own := [("number", 3)]) rfl sc_Desk_idle.nd (pi_range1 rfl T.zrange (pa_cons (pe_callB call_len_seq (by rfl) T.zlen PySem.boot_len (pa_cons (pv 2) pa_nil)) pa_nil)) (blkOk_by (own := [("number", 3)]) (N := ["self", "which", "many", "number"]) (sc := defScope s_Desk_idle) (by decide +kernel)) (fun _ _ _ _ _ => (pg_name (i := 3) sc_Desk_idle.nd rfl (Or.inl rfl))) (fun _ _ _ _ _ => pts_one (pt_cmpR op_eq (pe_ix (r := rIxL K) ix_list (pv 2) (pv 3) (fun _ _ => rfl)) pe_int (nomark _))) (fun _ _ _ _ _ => (pv 3))) pa_nil))))), ?_⟩)
  · obtain ⟨D, Tt, st, i, E1, rfl, _⟩ := h
    rfl
  · obtain ⟨D, Tt, st, i, E1, rfl, d, hi, k⟩ := h
    unfold aIdle at k
    obtain ⟨dx, xs, a, hD, hT, hat, hix, ht, wf, hn1, hn7⟩ := d.view hi
    have w8 := wf.1
    refine ⟨_, rfl, D, _, _, rfl, hD, dk_no, _, rfl, D, Tt, st, i, rfl, d, hi, fun H1 p s1 hp => ?_⟩
    generalize Vapktb.tableAt st i = t at ht wf k hp w8
    rw [idle_eq, listed_eq] at k
    have eN : (natV (manyOf st.wide t)).length = t.length + 1 := by rw [natV_len, manyOf_len]
    refine ⟨_, rfl, _, rfl, p, _, rfl, SqL.of hp, fun p1 n1 => ?_⟩
    rw [cut_last eN]
    have s2 := snew (o := .lst ((natV (manyOf st.wide t)).take t.length)) n1
    have hp1 : upd H1 p1 (.lst ((natV (manyOf st.wide t)).take t.length)) p1 = some (.lst ((natV (manyOf st.wide t)).take t.length)) := upd_same
    generalize upd H1 p1 (.lst ((natV (manyOf st.wide t)).take t.length)) = H2 at s2 hp1
    refine ⟨_, rfl, p1, _, rfl, .inl (SqL.of hp1), ?_⟩
    rw [List.length_take, eN, Nat.min_eq_left (Nat.le_succ _)]
    refine ⟨_, rfl, by omega, by omega, fun F nF => ?_⟩
    rw [Int.toNat_natCast]
    refine lc_range (lo := 0) (n := t.length) (fun j H' => GrownI H2 H' F (natI ((List.range j).filter fun i => (hds st.wide fun h => cnt t h == i).length == 0))) (GrownI.start (Same.refl H2) nF) (fun j H' hj g => ?_) (fun H' g => ?_)
    · have ej : ((natV (manyOf st.wide t)).take t.length)[j]? = some (.int ((hds st.wide fun h => cnt t h == j).length : Nat)) := by
        rw [List.getElem?_take_of_lt hj]
        unfold natV natI manyOf
        rw [List.map_map, List.map_map, List.getElem?_map, List.getElem?_range (by omega)]
        rfl
      refine ⟨rfl, _, rfl, _, rfl, p1, _, _, _, rfl, rfl, SqL.of (g.same _ _ hp1), by rw [zadd]; exact atI_nat ej, rfl, _, rfl, ?_⟩
      rw [filter_snoc]
      by_cases c : (hds st.wide fun h => cnt t h == j).length = 0
      · refine ifT (decide_eq_true (by rw [c]; rfl)) ⟨_, rfl, ?_⟩
        obtain ⟨l, g1, g2, g3⟩ := g.more (z := (j : Nat)) (Same.refl _)
        refine ⟨l, g1, size1000 ?_, ?_⟩
        · have := List.length_filter_le (fun i => (hds st.wide fun h => cnt t h == i).length == 0) (List.range j)
          rw [List.length_range] at this
          rw [g2]; unfold natI; rw [List.length_map]; omega
        · rw [if_pos (by rw [c]; rfl), natI_snoc, zadd]
          exact g3
      · refine ifF (decide_eq_false fun z => c (by have := V.int.inj z; omega)) ?_
        rw [if_neg (by rw [beq_iff_eq]; exact c), List.append_nil]
        exact g
    · have s12 := s1.trans s2
      refine ⟨F, _, rfl, SqL.of g.lst, ?_, fun H3 q f3 s3 h3 => k.same d ((s12.trans g.same).free f3) ((s12.trans g.same).trans s3) h3⟩
      have := List.length_filter_le (fun i => (hds st.wide fun h => cnt t h == i).length == 0) (List.range t.length)
      rw [List.length_range] at this
      unfold natI
      rw [List.length_map]
      omega
def aSmall (st : State) (i : Nat) : State × List Int := Vapktb.setTable st i (Vapktb.small st.wide (Vapktb.tableAt st i)).2 (Vapktb.int (Vapktb.small st.wide (Vapktb.tableAt st i)).1.length :: (Vapktb.small st.wide (Vapktb.tableAt st i)).1.flatMap Vapktb.lessTold)
theorem ok_Desk_small (T : Txt K mg) : FnOk P w K mg base CX0 8 T.Desk_small.f T.Desk_small.fd ["self", "which"] (spDI T.cDesk T.cRef T.cNR aSmall) := by
  refine T.Desk_small.fn.ok sc_Desk_small (fun vs H Q E h => ?_) (fun cdv A outer s H vs Q E hr h => ⟨_, (pss_cons (ps_asg (pe_call (ok_made_small T) (hr.mono (by decide)) rfl T.made_small.gl T.made_small.kp T.made_small.bd .nil pass0 (pa_cons (pe_ix ix_list (pe_fld (pv 0) rfl) (pv 1) (fun _ _ => rfl)) (pa_cons (pe_fld (pv 0) rfl) pa_nil))) (pg_tup rfl (pgs_cons (pg_name (i := 2) sc_Desk_small.nd rfl (Or.inl rfl)) (pgs_cons (pg_sub (pe_fld (pv 0) rfl) (pv 1) set_list) pgs_nil))))
      (pss_one (ps_ret (pv 2)))), ?_⟩)
  · obtain ⟨D, Tt, st, i, E1, rfl, _⟩ := h
    rfl
  · obtain ⟨D, Tt, st, i, E1, rfl, d, hi, k⟩ := h
    obtain ⟨dx, xs, a, hD, hT, hat, hix, ht, wf, hn1, hn7⟩ := d.view hi
    unfold aSmall at k
    generalize Vapktb.tableAt st i = t at ht wf k
    refine ⟨_, rfl, _, _, _, _, _, rfl, hD, T.kDesk, T.nDesk_tables, dk_tables, _, rfl, _, _, _, _, rfl, rfl, SqL.of (hT), hat, _, rfl, _, _, _, _, _, rfl, hD, T.kDesk, T.nDesk_bits, dk_bits, a, t, st.wide, rfl, ht, wf, hn7, fun H1 p b c fb fc s1 hp hb hc => ?_⟩
    have A := After.put d s1 hT hc (small_wf t.length rfl wf).1 hi (fc.imp id fun e => by
      subst e
      refine ⟨xs, hT, ?_⟩
      obtain ⟨j, _, hj, _⟩ := atI_get hat
      exact List.mem_of_getElem? (atI_get hat).choose_spec.2.1)
    refine ⟨p, _, rfl, SqT.of hp, rfl, _, _, rfl, _, _, rfl, _, rfl, _, _, _, _, _, rfl, s1 _ _ hD, T.kDesk, T.nDesk_tables, dk_tables, _, rfl, Tt, xs, _, i, rfl, rfl, s1 _ _ hT, hix, rfl, _, rfl, ?_⟩
    refine k.ret _ b Tt fb A ?_
    have ne : b ≠ Tt := fun z => by rw [z, hT] at fb; cases fb
    unfold IntsAt
    rw [upd_ne ne]
    exact hb
end
end Rt

/-! apart, sent_by, to, out, sent_as -/
namespace Rt
open PySem PySem.Spec PyProof.Rows L2
open VapktBase (Rule Action Table Rewrite)
open Vapktb (State)
section
variable {P : Program} {w : World} {K : PySem.W.Frag} {mg : Str → Option Value} {base : Heap}
/-- a rule's own headers as rules -/
def apOne (n : Nat) (t : Table) (x : Rule × Nat) : Table := (pats n (hds n fun h => cnt t h == x.2)).map fun p => ⟨p, x.1.action⟩
theorem apart_eq {n : Nat} {t : Table} : Vapktb.apart n t = t.zipIdx.flatMap (apOne n t) := by
  unfold Vapktb.apart
  have key : ∀ l : List (Rule × Nat), (∀ x ∈ l, x.2 < t.length) → l.flatMap (fun x => (VapktBase.formOf n (Vapktb.ownSet n t x.2)).map fun p => (⟨p, x.1.action⟩ : Rule)) = l.flatMap (apOne n t) := by
    intro l
    induction l with
    | nil => intro _; rfl
    | cons x l ih =>
      intro hl
      rw [List.flatMap_cons, List.flatMap_cons, ih fun y hy => hl y (List.mem_cons_of_mem _ hy), own_formOf (hl x List.mem_cons_self)]
      rfl
  refine key _ fun x hx => ?_
  obtain ⟨i, hi, e⟩ := List.getElem_of_mem hx
  rw [List.getElem_zipIdx] at e
  rw [List.length_zipIdx] at hi
  rw [← e]
  show 0 + i < _
  omega
theorem apOne_len {n : Nat} {t : Table} (x : Rule × Nat) (h : n ≤ 7) : (apOne n t x).length ≤ 128 := by
  unfold apOne
  rw [List.length_map]
  have := pats_len n (hds n fun h => cnt t h == x.2)
  have := hds_len n fun h => cnt t h == x.2
  have := pow_le h
  omega
theorem apL_len {n : Nat} {t : Table} (h : n ≤ 7) : ∀ l : List (Rule × Nat), (l.flatMap (apOne n t)).length ≤ 128 * l.length
  | [] => by simp
  | x :: l => by
    rw [List.flatMap_cons, List.length_append, List.length_cons]
    have := apL_len (t := t) h l
    have := apOne_len (t := t) x h
    omega
def aApart (st : State) (i : Nat) : State × List Int := (st, Vapktb.int (Vapktb.apart st.wide (Vapktb.tableAt st i)).length :: (Vapktb.apart st.wide (Vapktb.tableAt st i)).flatMap VapktBase.flatRule)
theorem ok_Desk_apart (T : Txt K mg) : FnOk P w K mg base CX0 9 T.Desk_apart.f T.Desk_apart.fd ["self", "which"] (spDI T.cDesk T.cRef T.cNR aApart) := by
  refine T.Desk_apart.fn.ok sc_Desk_apart (fun vs H Q E h => ?_) (fun cdv A outer s H vs Q E hr h => ⟨_, (pss_cons (ps_set (i := 2) sc_Desk_apart.nd rfl (Or.inl rfl) (pe_lst pa_nil))
      (pss_cons (ps_for PassesOwn.never rfl (pi_enum (by rfl) T.zenumerate (pa_cons (pe_ix ix_list (pe_fld (pv 0) rfl) (pv 1) (fun _ _ => rfl)) pa_nil)) (pg_tup rfl (pgs_cons (pg_name (i := 3) sc_Desk_apart.nd rfl (Or.inl rfl)) (pgs_cons (pg_name (i := 4) sc_Desk_apart.nd rfl (Or.inl rfl)) pgs_nil))) (pss_one (ps_for PassesOwn.never rfl (pi_list (pe_call (ok_set_patterns T) (hr.mono (by decide)) rfl T.set_patterns.gl T.set_patterns.kp T.set_patterns.bd .nil pass0 (pa_cons (pe_call (ok_own_headers T) (hr.mono (by decide)) rfl T.own_headers.gl T.own_headers.kp T.own_headers.bd .nil pass0 (pa_cons (pe_ix ix_list (pe_fld (pv 0) rfl) (pv 1) (fun _ _ => rfl)) (pa_cons (pv 3) (pa_cons (pe_fld (pv 0) rfl) pa_nil)))) (pa_cons (pe_fld (pv 0) rfl) pa_nil)))) (pg_name (i := 5) sc_Desk_apart.nd rfl (Or.inl rfl)) (pss_one (ps_expr (pe_bm PySem.F.plainAttrs_list PySem.F.slot_list_append PySem.F.type_list_append mt_append (pv 2) (pa_cons (pe_tup (pa_cons (pv 5) (pa_cons (pe_ix ix_tup (pv 4) pe_int (fun _ _ => rfl)) pa_nil))) pa_nil)))))))
      (pss_cons (ps_set (i := 6) sc_Desk_apart.nd rfl (Or.inl rfl) (pe_lst (pa_cons (pe_callB call_len_seq (by rfl) T.zlen PySem.boot_len (pa_cons (pv 2) pa_nil)) pa_nil)))
      (pss_cons (ps_for PassesOwn.never rfl (pi_list (pv 2)) (pg_name (i := 4) sc_Desk_apart.nd rfl (Or.inl rfl)) (pss_one (ps_expr (pe_bm PySem.F.plainAttrs_list PySem.F.slot_list_extend PySem.F.type_list_extend mt_extend (pv 6) (pa_cons (pe_call (ok_rule_numbers T) (hr.mono (by decide)) rfl T.rule_numbers.gl T.rule_numbers.kp T.rule_numbers.bd .nil pass0 (pa_cons (pv 4) pa_nil)) pa_nil)))))
      (pss_one (ps_ret (pv 6))))))), ?_⟩)
  · obtain ⟨D, Tt, st, i, E1, rfl, _⟩ := h
    rfl
  · obtain ⟨D, Tt, st, i, E1, rfl, d, hi, k⟩ := h
    unfold aApart at k
    obtain ⟨dx, xs, a, hD, hT, hat, hix, ht, wf, hn1, hn7⟩ := d.view hi
    have w8 := wf.1
    generalize Vapktb.tableAt st i = t at ht wf k w8
    have ht' := ht
    obtain ⟨as, ha, hp⟩ := ht
    have hl := Paired.len hp
    rw [apart_eq] at k
    generalize hn : st.wide = n at *
    refine ⟨(by show 0 ≤ sizeLine; decide), fun F nF => ?_⟩
    have sF := snew (o := .lst []) nF
    refine ⟨_, rfl, _, _, _, _, _, rfl, sF _ _ hD, T.kDesk, T.nDesk_tables, dk_tables, _, rfl, _, _, _, _, rfl, rfl, SqL.of (sF _ _ hT), hat, a, _, rfl, SqL.of (sF _ _ ha), ?_⟩
    refine for_enum (fun j σ H' => (∃ v3 v4 v5 v6 : Option V, σ = [some (.ref D), some (.int (i : Nat)), some (.ref F), v3, v4, v5, v6]) ∧ Grown RuleAt H H' F ((t.zipIdx.take j).flatMap (apOne n t)))
      ⟨⟨none, none, none, none, rfl⟩, Grown.start (Same.refl H) nF⟩ (fun j σ H' q => SqL.of (q.2.same _ _ ha)) ?_ ?_
    · rintro j x E2 σ H' hx ⟨⟨v3, v4, v5, v6, rfl⟩, g⟩ hE
      obtain ⟨ra, hra, rfl⟩ := refs_of_at hx
      obtain ⟨r, hr, b1, c1, h1, h2, h3⟩ := Paired.at' hp hra
      have hjt : j < t.length := (List.getElem?_eq_some_iff.mp hr).1
      have sE := snew (o := .tup [.int (j : Nat), .ref ra]) hE
      have gE := g.on rule_tups sE
      generalize hH1 : upd H' E2 (.tup [.int (j : Nat), .ref ra]) = H1 at gE
      have hE1 : H1 E2 = some (.tup [.int (j : Nat), .ref ra]) := by rw [← hH1]; exact upd_same
      refine ⟨E2, _, rfl, SqT.of hE1, rfl, _, _, rfl, _, _, rfl, rfl, ?_⟩
      have s1 := gE.same
      refine ⟨_, rfl, _, _, _, _, _, rfl, s1 _ _ hD, T.kDesk, T.nDesk_tables, dk_tables, _, rfl, _, _, _, _, rfl, rfl, SqL.of (s1 _ _ hT), hat, _, rfl, _, rfl, _, _, _, _, _, rfl, s1 _ _ hD, T.kDesk, T.nDesk_bits, dk_bits, a, t, j, n, rfl, TabAt.same s1 ht', hn7, fun H2 p s2 hp2 => ?_⟩
      refine ⟨_, rfl, _, _, _, _, _, rfl, s2 _ _ (s1 _ _ hD), T.kDesk, T.nDesk_bits, dk_bits, p, _, n, rfl, SqL.of hp2, by omega, hn7, hds128 hn7 _, fun H3 q fq s3 hq => ?_⟩
      have qF : q ≠ F := fun z => by
        have := s2 _ _ (gE.lst).choose_spec.1
        rw [z, this] at fq
        cases fq
      have s23 := s2.trans s3
      have g3 := gE.on rule_tups s23
      obtain ⟨qs, hq1, hq2⟩ := hq
      have lq := pats_len n (hds n fun h => cnt t h == j)
      have lh := hds_len n fun h => cnt t h == j
      have l2 := pow_le hn7
      have lz : ((t.zipIdx.take j).flatMap (apOne n t)).length ≤ 128 * 8 := by
        refine Nat.le_trans (apL_len hn7 _) ?_
        rw [List.length_take, List.length_zipIdx]
        omega
      generalize hps : pats n (hds n fun h => cnt t h == j) = ps at hq2 lq
      have ezz : (t.zipIdx.take (j + 1)).flatMap (apOne n t) = (t.zipIdx.take j).flatMap (apOne n t) ++ ps.map fun p => ⟨p, r.action⟩ := by
        rw [take_one (l := t.zipIdx) (x := (r, j)) (by rw [List.getElem?_zipIdx, hr]; show some (r, 0 + j) = _; rw [Nat.zero_add]), List.flatMap_append, List.flatMap_singleton]
        unfold apOne
        rw [hps]
      refine ⟨q, rfl, ⟨_, SqL.of hq1⟩, ?_⟩
      refine for_list (K := K) (a := q) (xs := qs.map V.ref) (fun k σ H'' => (∃ v5 : Option V, σ = [some (.ref D), some (.int (i : Nat)), some (.ref F), some (.int (j : Nat)), some (.ref ra), v5, v6]) ∧ H'' q = some (.lst (qs.map V.ref)) ∧ TupStay H3 H'' ∧ Grown RuleAt H H'' F ((t.zipIdx.take j).flatMap (apOne n t) ++ (ps.take k).map fun p => (⟨p, r.action⟩ : Rule)))
        ⟨⟨_, rfl⟩, hq1, fun _ _ e => e, by rw [List.take_zero, List.map_nil, List.append_nil]; exact g3⟩ (fun k σ H'' _ z => SqL.of z.2.1) ?_ ?_
      · rintro k x σ H'' hx ⟨⟨v5, rfl⟩, hq', ts, g⟩
        obtain ⟨pa, hpa, rfl⟩ := refs_of_at hx
        obtain ⟨pt, hpt, hP⟩ := Paired.at' hq2 hpa
        have hP' : PatAt H'' pa pt := ts _ _ hP
        have h1' : H'' ra = some (.tup [.ref b1, .ref c1]) := ts _ _ (s23 _ _ (gE.same _ _ h1))
        have h3' : ActAt H'' c1 r.action := ts _ _ (s23 _ _ (gE.same _ _ h3))
        have hF := g.lst
        obtain ⟨fs, hF1, hF2⟩ := hF
        refine ⟨_, rfl, .inl ⟨rfl, _, SqL.of hF1⟩, _, rfl, _, rfl, ra, _, _, _, rfl, rfl, SqT.of h1', rfl, (by show 2 ≤ sizeLine; decide), fun e ne => ?_⟩
        have se := snew (o := .tup [.ref pa, .ref c1]) ne
        obtain ⟨l, g1, g2, g3⟩ := g.more (x := (⟨pt, r.action⟩ : Rule)) (p := e) rule_tups se ⟨pa, c1, upd_same, hP'.same se, h3'.same se⟩
        refine ⟨F, l, _, rfl, rfl, g1, size1000 ?_, ⟨_, rfl⟩, ?_, ?_, ?_⟩
        · rw [g2, List.length_append, List.length_map, List.length_take]
          omega
        · rw [upd_ne qF]
          exact se _ _ hq'
        · exact (ts.trans (stay_same se)).trans (stay_lst g1)
        · rw [take_one hpt, List.map_append, ← List.append_assoc]
          exact g3
      · rintro σ H'' ⟨⟨v5, rfl⟩, hq', ts, g⟩
        rw [List.length_map, Paired.len hq2, List.take_length, ← ezz] at g
        exact ⟨⟨_, _, _, _, rfl⟩, g⟩
    · rintro σ H' ⟨⟨v3, v4, v5, v6, rfl⟩, g⟩
      have eT : t.zipIdx.take (as.map V.ref).length = t.zipIdx := by
        rw [List.length_map, hl, ← List.length_zipIdx (l := t), List.take_length]
      rw [eT] at g
      have lz : (t.zipIdx.flatMap (apOne n t)).length ≤ 128 * 8 := by
        refine Nat.le_trans (apL_len hn7 _) ?_
        rw [List.length_zipIdx]
        omega
      obtain ⟨⟨fs, f1, f2⟩, fS, fN⟩ := g
      generalize t.zipIdx.flatMap (apOne n t) = rs at *
      refine ⟨_, rfl, F, _, rfl, .inl (SqL.of f1), (by show 1 ≤ sizeLine; decide), fun R nR => ?_⟩
      rw [List.length_map, Paired.len f2]
      have sR := snew (o := .lst [.int (rs.length : Nat)]) nR
      refine ⟨_, rfl, F, rfl, ⟨_, SqL.of (sR _ _ f1)⟩, ?_⟩
      refine for_list (K := K) (a := F) (xs := fs.map V.ref) (fun k σ H'' => (∃ v3 v4 v5 : Option V, σ = [some (.ref D), some (.int (i : Nat)), some (.ref F), v3, v4, v5, some (.ref R)]) ∧ Same H' H'' ∧ H'' R = some (.lst (((rs.length : Int) :: (rs.take k).flatMap VapktBase.flatRule).map V.int)))
        ⟨⟨_, _, _, rfl⟩, sR, upd_same⟩ (fun k σ H'' _ z => SqL.of (z.2.1 _ _ f1)) ?_ ?_
      · rintro k x σ H'' hx ⟨⟨v3, v4, v5, rfl⟩, s, hR⟩
        obtain ⟨ra, hra, rfl⟩ := refs_of_at hx
        obtain ⟨r, hr, hR1⟩ := Paired.at' f2 hra
        refine ⟨_, rfl, .inl ⟨rfl, _, SqL.of hR⟩, _, rfl, ra, r, rfl, RuleAt.same s hR1, fun H2 p s2 hI => ?_⟩
        refine ⟨R, p, _, _, rfl, rfl, s2 _ _ hR, hI, size1000' ?_, ⟨_, _, _, rfl⟩, ?_, ?_⟩
        · rw [List.length_map, List.length_map, List.length_cons]
          have := flatRules_len (rs.take k)
          have := flatRule_len r
          have : (rs.take k).length ≤ 128 * 8 := by rw [List.length_take]; omega
          omega
        · intro b o e
          rw [upd_ne (ne_of_none e nR)]
          exact s2 _ _ (s _ _ e)
        · rw [upd_same, take_one hr, List.flatMap_append, List.flatMap_singleton, ← List.map_append]
          rfl
      · rintro σ H'' ⟨⟨v3, v4, v5, rfl⟩, s, hR⟩
        rw [List.length_map, Paired.len f2, List.take_length] at hR
        exact ⟨_, rfl, k.same d (fS.free nR) (fS.trans s) hR⟩
end
end Rt

/-! sent_by, to, out, sent_as -/
namespace Rt
open PySem PySem.Spec PyProof.Rows L2
open VapktBase (Rule Action Table Rewrite)
open Vapktb (State)
section
variable {P : Program} {w : World} {K : PySem.W.Frag} {mg : Str → Option Value} {base : Heap}
def PrAt (H : Hp) (a : Addr) (x : Nat × Nat) : Prop := H a = some (.tup [.int (x.1 : Nat), .int (x.2 : Nat)])
theorem pr_tups : OnTups PrAt := fun _ _ _ _ s h => s _ _ h
theorem PrAt.same {H H' : Hp} {a : Addr} {p : Nat × Nat} (s : Same H H') (h : PrAt H a p) : PrAt H' a p := s _ _ h
def spSentBy (C CR : Addr) : Sp := fun vs H Q E => ∃ (D Tt : Addr) (st : State) (i : Nat) (z : Int), vs = [.ref D, .int (i : Nat), .int z] ∧ DeskAt C H D Tt st ∧ i < 2 ∧
  (∀ p : Nat, z = p → p < 6 → ∀ H' q, Same H H' → LstAt PrAt H' q (sentL st.wide (Vapktb.tableAt st i) p) → Q (.ref q) H') ∧
  (¬ (0 ≤ z ∧ z < 6) → ∀ d', H d' = none → E (.ref CR) (some d') (upd H d' (.xd [(("why" : Str), .int (-3))])))
theorem sent_len (n : Nat) (t : Table) (p : Nat) : (sentL n t p).length ≤ 2 ^ n := by
  unfold sentL
  have := List.length_filterMap_le (fun h => sent1 p h (Vapktb.outcome t h)) (List.range (2 ^ n))
  rw [List.length_range] at this
  exact this
theorem ok_Desk_sent_by (T : Txt K mg) : FnOk P w K mg base (L2.CX P w) 4 T.Desk_sent_by.f T.Desk_sent_by.fd ["self", "which", "port"] (spSentBy T.cDesk T.cRef) := by
  refine T.Desk_sent_by.fn.okX sc_Desk_sent_by (fun vs H Q E h => ?_) (fun cdv A outer s H vs Q E hr h => ⟨_, (pss_cons (ps_expr (pe_call (ok_refuse_if T) (hr.mono (by decide)) rfl T.refuse_if.gl T.refuse_if.kp T.refuse_if.bd .nil (passes_call (takes_of rfl rfl rfl rfl) (fun _ _ _ _ h => h)) (pa_cons (pe_not (pe_chain op_le op_le pe_int (pv 2) (pgi rfl T.cMOST_PORT))) (pa_cons (pe_un un_neg pe_int) pa_nil))))
      (pss_cons (ps_set (i := 3) sc_Desk_sent_by.nd rfl (Or.inl rfl) (pe_lst pa_nil))
      (pss_cons (ps_for (passes_of rfl) rfl (pi_list (pe_meth0 (pv 0) T.kDesk T.Desk_headers.me (ok_Desk_headers T) (hr.mono (by decide)) T.Desk_headers.bd .nil pass0)) (pg_name (i := 4) sc_Desk_sent_by.nd rfl (Or.inl rfl)) (pss_cons (ps_set (i := 5) sc_Desk_sent_by.nd rfl (Or.inl rfl) (pe_call (ok_outcome T) (hr.mono (by decide)) rfl T.outcome.gl T.outcome.kp T.outcome.bd .nil pass0 (pa_cons (pe_ix ix_list (pe_fld (pv 0) rfl) (pv 1) (fun _ _ => rfl)) (pa_cons (pv 4) pa_nil))))
      (pss_one (ps_if (PW.pt (pw_and (pt_cmpR op_eq (pe_ix ix_tup (pv 5) pe_int (fun _ _ => rfl)) (pgi rfl T.cSENT) (nomark _)) (pw_and1 (pt_cmpR op_eq (pe_ix ix_tup (pv 5) pe_int (fun _ _ => rfl)) (pv 2) (nomark _))))) (pss_one (ps_expr (pe_bm PySem.F.plainAttrs_list PySem.F.slot_list_append PySem.F.type_list_append mt_append (pv 3) (pa_cons (pe_tup (pa_cons (pv 4) (pa_cons (pe_ix ix_tup (pv 5) pe_int (fun _ _ => rfl)) pa_nil))) pa_nil)))) pss_nil))))
      (pss_one (ps_ret (pv 3)))))), ?_⟩)
  · obtain ⟨D, Tt, st, i, z, rfl, _⟩ := h
    rfl
  · obtain ⟨D, Tt, st, i, z, rfl, d, hi, kS, kN⟩ := h
    obtain ⟨dx, xs, a, hD, hT, hat, hix, ht, wf, hn1, hn7⟩ := d.view hi
    refine ⟨_, rfl, _, _, rfl, rfl, _, rfl, ?_⟩
    by_cases c1 : 0 ≤ z
    · refine ifT (decide_eq_true c1) ⟨_, _, rfl, rfl, _, rfl, _, rfl, _, _, rfl, fun c => ?_, fun c => kN fun q => ?_⟩
      · have c2 : z ≤ 5 := by simpa using c
        obtain ⟨p, rfl⟩ := nat_of c1
        have hp6 : p < 6 := by omega
        have kS := kS p rfl hp6
        generalize Vapktb.tableAt st i = t at ht wf kS
        have ht' := ht
        refine ⟨(by show 0 ≤ sizeLine; decide), fun F nF => ?_⟩
        have sF := snew (o := .lst []) nF
        refine ⟨_, rfl, D, _, _, rfl, sF _ _ hD, dk_no, D, Tt, st, rfl, d.same sF, fun H1 q s1 hq => ?_⟩
        refine ⟨q, rfl, ⟨_, SqL.of hq⟩, ?_⟩
        have g0 : Grown PrAt H H1 F [] := ⟨⟨[], s1 _ _ upd_same, .nil⟩, sF.trans s1, nF⟩
        have hq0 : H1 q = some (.lst (natV (allH st.wide))) := hq
        have qF : q ≠ F := fun z => by
          have e := s1 _ _ (upd_same (H := H) (a := F) (o := .lst []))
          rw [z, e] at hq0
          have := HO.lst.inj (Option.some.inj hq0)
          have l := congrArg List.length this
          rw [natV_len] at l
          unfold allH at l
          rw [List.length_range] at l
          have := Nat.two_pow_pos st.wide
          rw [List.length_nil] at l
          omega
        have pl := pow_le hn7
        have hall : (allH st.wide).length = 2 ^ st.wide := by unfold allH; rw [List.length_range]
        refine for_list (K := K) (a := q) (xs := natV (allH st.wide)) (fun k σ H'' => (∃ v4 v5 : Option V, σ = [some (.ref D), some (.int (i : Nat)), some (.int (p : Nat)), some (.ref F), v4, v5]) ∧ H'' q = some (.lst (natV (allH st.wide))) ∧ Grown PrAt H H'' F (((allH st.wide).take k).filterMap fun h => sent1 p h (Vapktb.outcome t h)))
          ⟨⟨none, none, rfl⟩, hq0, g0⟩ (fun k σ H'' _ z => SqL.of z.2.1) ?_ ?_
        · rintro k x σ H'' hx ⟨⟨v4, v5, rfl⟩, hq', g⟩
          obtain ⟨h, hh, rfl⟩ := natV_at hx
          have s := g.same
          refine ⟨_, rfl, _, _, _, _, _, rfl, s _ _ hD, T.kDesk, T.nDesk_tables, dk_tables, _, rfl, _, _, _, _, rfl, rfl, SqL.of (s _ _ hT), hat, _, rfl, a, t, h, rfl, TabAt.same s ht', fun H2 e s2 ho => ?_⟩
          unfold OutAt at ho
          have lz : (((allH st.wide).take k).filterMap fun h => sent1 p h (Vapktb.outcome t h)).length ≤ 128 := by
            refine Nat.le_trans (List.length_filterMap_le _ _) ?_
            rw [List.length_take]
            omega
          have eN : ((allH st.wide).take (k + 1)).filterMap (fun h => sent1 p h (Vapktb.outcome t h)) = ((allH st.wide).take k).filterMap (fun h => sent1 p h (Vapktb.outcome t h)) ++ (sent1 p h (Vapktb.outcome t h)).toList := by
            rw [take_one hh, List.filterMap_append]
            refine congrArg _ ?_
            cases e : sent1 p h (Vapktb.outcome t h) with
            | none => exact List.filterMap_cons_none (f := fun h => sent1 p h (Vapktb.outcome t h)) (a := h) (l := []) e
            | some y => exact List.filterMap_cons_some (f := fun h => sent1 p h (Vapktb.outcome t h)) (a := h) (l := []) e
          rw [eN]
          have gg := g.on pr_tups s2
          cases o : Vapktb.outcome t h with
          | hole =>
            rw [o] at ho
            refine ⟨_, rfl, e, _, _, _, rfl, rfl, SqT.of ho, rfl, rfl, _, rfl, ?_⟩
            refine ifF rfl ⟨⟨_, _, rfl⟩, s2 _ _ hq', ?_⟩
            show Grown PrAt H H2 F (_ ++ [])
            rw [List.append_nil]
            exact gg
          | dropped =>
            rw [o] at ho
            refine ⟨_, rfl, e, _, _, _, rfl, rfl, SqT.of ho, rfl, rfl, _, rfl, ?_⟩
            refine ifF rfl ⟨⟨_, _, rfl⟩, s2 _ _ hq', ?_⟩
            show Grown PrAt H H2 F (_ ++ [])
            rw [List.append_nil]
            exact gg
          | sent p' k' =>
            rw [o] at ho
            refine ⟨_, rfl, e, _, _, _, rfl, rfl, SqT.of ho, rfl, rfl, _, rfl, ?_⟩
            refine ifT rfl ⟨_, rfl, e, _, _, _, rfl, rfl, SqT.of ho, rfl, _, rfl, rfl, _, rfl, ?_⟩
            rw [sent1_eq]
            by_cases cp : p' = p
            · obtain ⟨l, g1, _⟩ := gg.lst
              refine ifT (decide_eq_true (by rw [cp])) ⟨_, rfl, .inl ⟨rfl, _, SqL.of g1⟩, _, rfl, _, rfl, e, _, _, _, rfl, rfl, SqT.of ho, rfl, (by show 2 ≤ sizeLine; decide), fun u nu => ?_⟩
              have su := snew (o := .tup [.int (h : Nat), .int (k' : Nat)]) nu
              obtain ⟨l, g1, g2, g3⟩ := gg.more (x := (h, k')) (p := u) pr_tups su upd_same
              refine ⟨F, l, _, rfl, rfl, g1, size1000 (by rw [g2]; omega), ⟨_, _, rfl⟩, ?_, ?_⟩
              · rw [upd_ne qF]
                exact su _ _ (s2 _ _ hq')
              · rw [if_pos cp]
                exact g3
            · refine ifF (decide_eq_false fun z => cp (by have := V.int.inj z; omega)) ⟨⟨_, _, rfl⟩, s2 _ _ hq', ?_⟩
              rw [if_neg cp]
              show Grown PrAt H H2 F (_ ++ [])
              rw [List.append_nil]
              exact gg
        · rintro σ H'' ⟨⟨v4, v5, rfl⟩, hq', g⟩
          rw [natV_len, List.take_length] at g
          exact ⟨_, rfl, kS H'' F g.same g.lst⟩
      · simp at c
        omega
    · exact ifF (decide_eq_false c1) ⟨_, rfl, _, rfl, _, _, rfl, fun c => (by cases c), fun _ => kN fun z => c1 z.1⟩
def onP (st : State) (i : Nat) (z : Int) (f : Table → Nat → List Int) : State × List Int := (st, match Vapktb.belowN z VapktBase.PORTS with
  | none => [-3]
  | some k => f (Vapktb.tableAt st i) k)
theorem onP_no {st : State} {i : Nat} {z : Int} {f : Table → Nat → List Int} (h : ¬ (0 ≤ z ∧ z < 6)) : onP st i z f = (st, [-3]) := by
  unfold onP
  rw [below_none (m := VapktBase.PORTS) h]
theorem onP_yes {st : State} {i k : Nat} {f : Table → Nat → List Int} (h : k < 6) : onP st i (k : Nat) f = (st, f (Vapktb.tableAt st i) k) := by
  unfold onP
  rw [below_some (m := VapktBase.PORTS) h]
def aTo (st : State) (i : Nat) (z : Int) : State × List Int := onP st i z fun t k => Vapktb.setTold st.wide (Vapktb.toSet st.wide t k)
theorem ok_Desk_to (T : Txt K mg) : FnOk P w K mg base (L2.CX P w) 10 T.Desk_to.f T.Desk_to.fd ["self", "which", "port"] (spDZ T.cDesk T.cRef T.cNR aTo) := by
  refine T.Desk_to.fn.okX sc_Desk_to (fun vs H Q E h => ?_) (fun cdv A outer s H vs Q E hr h => ⟨_, (pss_one (ps_ret (pe_call (ok_set_numbers T) (hr.mono (by decide)) rfl T.set_numbers.gl T.set_numbers.kp T.set_numbers.bd .nil pass0 (pa_cons (pe_lc (own := [("header", 3), ("sent", 4)]) rfl sc_Desk_to.nd (pi_list (pe_meth (pv 0) T.kDesk T.Desk_sent_by.me (ok_Desk_sent_by T) (hr.mono (by decide)) T.Desk_sent_by.bd .nil (passes_call (takes_of rfl rfl rfl rfl) (fun _ _ _ _ h => h)) (pa_cons (pv 1) (pa_cons (pv 2) pa_nil)))) (blkOk_by (own := [("header", 3), ("sent", 4)]) (N := ["self", "which", "port", "header", "sent"]) (sc := defScope s_Desk_to) (by decide +kernel)) (fun _ _ _ _ _ => (by show PG _ (.Tuple _ _ _) (gTup K 2 (gCons (gName 3) (gCons (gName 4) gNil))); refine pg_tup rfl ?_; refine pgs_cons (pg_name (i := 3) sc_Desk_to.nd rfl (Or.inl rfl)) ?_; refine pgs_cons (pg_name (i := 4) sc_Desk_to.nd rfl (Or.inl rfl)) ?_; exact pgs_nil)) (fun _ _ _ _ _ => pts_nil) (fun _ _ _ _ _ => (pv 3))) (pa_cons (pe_fld (pv 0) rfl) pa_nil))))), ?_⟩)
  · obtain ⟨D, Tt, st, i, z, rfl, _⟩ := h
    rfl
  · obtain ⟨D, Tt, st, i, z, rfl, d, hi, k⟩ := h
    obtain ⟨dx, xs, a, hD, hT, hat, hix, ht, wf, hn1, hn7⟩ := d.view hi
    refine ⟨_, rfl, D, _, _, rfl, hD, dk_no, _, rfl, _, rfl, D, Tt, st, i, z, rfl, d, hi, fun p e hp H1 q s1 hq => ?_, fun c d' nd => ?_⟩
    · subst e
      have e : aTo st i (p : Nat) = _ := onP_yes hp
      rw [e, to_told] at k
      have hlen := sent_len st.wide (Vapktb.tableAt st i) p
      have pl := pow_le hn7
      generalize sentL st.wide (Vapktb.tableAt st i) p = sl at hq k hlen
      obtain ⟨qs, hq1, hq2⟩ := hq
      refine ⟨q, rfl, ⟨_, SqL.of hq1⟩, fun F nF => ?_⟩
      refine lc_list (xs := qs.map V.ref) (fun j H' => GrownI H1 H' F (natI ((sl.take j).map (·.1)))) (GrownI.start (Same.refl H1) nF) (fun j H' _ g => SqL.of (g.same _ _ hq1)) (fun j x H' hx g => ?_) (fun H' g => ?_)
      · obtain ⟨ra, hra, rfl⟩ := refs_of_at hx
        obtain ⟨y, hy, hY⟩ := Paired.at' hq2 hra
        have hY' : PrAt H' ra y := g.same _ _ hY
        refine ⟨ra, _, rfl, SqT.of hY', rfl, _, _, rfl, _, _, rfl, rfl, rfl, _, rfl, ?_⟩
        obtain ⟨l, g1, g2, g3⟩ := g.more (z := (y.1 : Nat)) (Same.refl _)
        refine ⟨l, g1, size1000 (by rw [g2]; unfold natI; rw [List.length_map, List.length_map, List.length_take]; omega), ?_⟩
        rw [take_one hy, List.map_append]
        show GrownI H1 _ F (natI (_ ++ [y.1]))
        rw [natI_snoc]
        exact g3
      · rw [List.length_map, Paired.len hq2, List.take_length] at g
        refine ⟨_, rfl, _, _, _, _, _, rfl, g.same _ _ (s1 _ _ hD), T.kDesk, T.nDesk_bits, dk_bits, F, _, st.wide, rfl, SqL.of g.lst, hn7, by rw [List.length_map]; omega, fun H2 u f2 s2 hu => k.same d ((s1.trans g.same).free f2) ((s1.trans g.same).trans s2) hu⟩
    · unfold aTo at k
      rw [onP_no c] at k
      exact k.no d (Same.refl H) nd
def aOut (st : State) (i : Nat) (z : Int) : State × List Int := onP st i z fun t k => Vapktb.setTold st.wide (Vapktb.comesOut st.wide t k)
theorem rising_extI : ∀ {l l' : List Int}, l.Pairwise (· < ·) → l'.Pairwise (· < ·) → (∀ x, x ∈ l ↔ x ∈ l') → l = l'
  | [], [], _, _, _ => rfl
  | [], y :: l', _, _, h => absurd ((h y).mpr List.mem_cons_self) List.not_mem_nil
  | x :: l, [], _, _, h => absurd ((h x).mp List.mem_cons_self) List.not_mem_nil
  | x :: l, y :: l', p, p', h => by
    obtain ⟨p1, p2⟩ := List.pairwise_cons.mp p
    obtain ⟨q1, q2⟩ := List.pairwise_cons.mp p'
    have e : x = y := by
      rcases List.mem_cons.mp ((h x).mp List.mem_cons_self) with e | e
      · exact e
      · rcases List.mem_cons.mp ((h y).mpr List.mem_cons_self) with e' | e'
        · exact e'.symm
        · have := p1 y e'
          have := q1 x e
          omega
    subst e
    refine congrArg (x :: ·) (rising_extI p2 q2 fun z => ⟨fun hz => ?_, fun hz => ?_⟩)
    · rcases List.mem_cons.mp ((h z).mp (List.mem_cons_of_mem _ hz)) with e | e
      · have := p1 z hz; omega
      · exact e
    · rcases List.mem_cons.mp ((h z).mpr (List.mem_cons_of_mem _ hz)) with e | e
      · have := q1 z hz; omega
      · exact e
theorem mem_natI {l : List Nat} {x : Int} : x ∈ natI l ↔ ∃ k ∈ l, x = (k : Nat) := by
  unfold natI
  rw [List.mem_map]
  exact ⟨fun ⟨k, h, e⟩ => ⟨k, h, e.symm⟩, fun ⟨k, h, e⟩ => ⟨k, h, e.symm⟩⟩
theorem natI_rising {l : List Nat} (h : l.Pairwise (· < ·)) : (natI l).Pairwise (· < ·) := by
  unfold natI
  rw [List.pairwise_map]
  exact h.imp fun q => Int.ofNat_lt.mpr q
theorem members_len (w s : Nat) : (VapktBase.members w s).length ≤ 2 ^ w := by
  have := List.length_filter_le (VapktBase.has s) (List.range (2 ^ w))
  rw [List.length_range] at this
  exact this
theorem ok_Desk_out (T : Txt K mg) : FnOk P w K mg base (L2.CX P w) 10 T.Desk_out.f T.Desk_out.fd ["self", "which", "port"] (spDZ T.cDesk T.cRef T.cNR aOut) := by
  refine T.Desk_out.fn.okX sc_Desk_out (fun vs H Q E h => ?_) (fun cdv A outer s H vs Q E hr h => ⟨_, (pss_one (ps_ret (pe_call (ok_set_numbers T) (hr.mono (by decide)) rfl T.set_numbers.gl T.set_numbers.kp T.set_numbers.bd .nil pass0 (pa_cons (pe_callB (cr_sortedSetA rfl) (by rfl) T.zsorted (by decide +kernel) (pa_cons (pe_callTy (cr_setOfI rfl) (by rfl) T.zset (by decide +kernel) (pa_cons (pe_lc (own := [("header", 3), ("sent", 4)]) rfl sc_Desk_out.nd (pi_list (pe_meth (pv 0) T.kDesk T.Desk_sent_by.me (ok_Desk_sent_by T) (hr.mono (by decide)) T.Desk_sent_by.bd .nil (passes_call (takes_of rfl rfl rfl rfl) (fun _ _ _ _ h => h)) (pa_cons (pv 1) (pa_cons (pv 2) pa_nil)))) (blkOk_by (own := [("header", 3), ("sent", 4)]) (N := ["self", "which", "port", "header", "sent"]) (sc := defScope s_Desk_out) (by decide +kernel)) (fun _ _ _ _ _ => (by show PG _ (.Tuple _ _ _) (gTup K 2 (gCons (gName 3) (gCons (gName 4) gNil))); refine pg_tup rfl ?_; refine pgs_cons (pg_name (i := 3) sc_Desk_out.nd rfl (Or.inl rfl)) ?_; refine pgs_cons (pg_name (i := 4) sc_Desk_out.nd rfl (Or.inl rfl)) ?_; exact pgs_nil)) (fun _ _ _ _ _ => pts_nil) (fun _ _ _ _ _ => (pv 4))) pa_nil)) pa_nil)) (pa_cons (pe_fld (pv 0) rfl) pa_nil))))), ?_⟩)
  · obtain ⟨D, Tt, st, i, z, rfl, _⟩ := h
    rfl
  · obtain ⟨D, Tt, st, i, z, rfl, d, hi, k⟩ := h
    obtain ⟨dx, xs, a, hD, hT, hat, hix, ht, wf, hn1, hn7⟩ := d.view hi
    refine ⟨_, rfl, D, _, _, rfl, hD, dk_no, _, rfl, _, rfl, D, Tt, st, i, z, rfl, d, hi, fun p e hp H1 q s1 hq => ?_, fun c d' nd => ?_⟩
    · subst e
      have e : aOut st i (p : Nat) = _ := onP_yes hp
      rw [e, setTold_mem _ _ (comes_lt wf)] at k
      have hlen := sent_len st.wide (Vapktb.tableAt st i) p
      have hmem := comes_members (p := p) wf
      have hml := members_len st.wide (Vapktb.comesOut st.wide (Vapktb.tableAt st i) p)
      have hmr := members_rising st.wide (Vapktb.comesOut st.wide (Vapktb.tableAt st i) p)
      have pl := pow_le hn7
      generalize sentL st.wide (Vapktb.tableAt st i) p = sl at hq hlen hmem
      generalize VapktBase.members st.wide (Vapktb.comesOut st.wide (Vapktb.tableAt st i) p) = M at k hmem hml hmr
      obtain ⟨qs, hq1, hq2⟩ := hq
      refine ⟨q, rfl, ⟨_, SqL.of hq1⟩, fun F nF => ?_⟩
      refine lc_list (xs := qs.map V.ref) (fun j H' => GrownI H1 H' F (natI ((sl.take j).map (·.2)))) (GrownI.start (Same.refl H1) nF) (fun j H' _ g => SqL.of (g.same _ _ hq1)) (fun j x H' hx g => ?_) (fun H' g => ?_)
      · obtain ⟨ra, hra, rfl⟩ := refs_of_at hx
        obtain ⟨y, hy, hY⟩ := Paired.at' hq2 hra
        have hY' : PrAt H' ra y := g.same _ _ hY
        refine ⟨ra, _, rfl, SqT.of hY', rfl, _, _, rfl, _, _, rfl, rfl, rfl, _, rfl, ?_⟩
        obtain ⟨l, g1, g2, g3⟩ := g.more (z := (y.2 : Nat)) (Same.refl _)
        refine ⟨l, g1, size1000 (by rw [g2]; unfold natI; rw [List.length_map, List.length_map, List.length_take]; omega), ?_⟩
        rw [take_one hy, List.map_append]
        show GrownI H1 _ F (natI (_ ++ [y.2]))
        rw [natI_snoc]
        exact g3
      · rw [List.length_map, Paired.len hq2, List.take_length] at g
        refine ⟨F, _, rfl, SqL.of g.lst, by unfold natI; rw [List.length_map, List.length_map]; omega, fun u c nu hc => ?_⟩
        have su := snew (o := SetO w u (fun j => decide (j ∈ natI (sl.map (·.2)))) c) nu
        have hc1 : c ≤ 1000 := by
          unfold natI at hc
          rw [List.length_map, List.length_map] at hc
          omega
        refine ⟨u, _, c, rfl, upd_same, hc1, fun ns v hr hm hl nv => ?_⟩
        have sv := snew (o := .lst (ns.map V.int)) nv
        have eM : ns = natI M := by
          refine rising_extI hr (natI_rising hmr) fun x => ?_
          rw [hm, decide_eq_true_iff, mem_natI, mem_natI]
          exact ⟨fun ⟨k, h, e⟩ => ⟨k, (hmem k).mpr h, e⟩, fun ⟨k, h, e⟩ => ⟨k, (hmem k).mp h, e⟩⟩
        subst eM
        have st' := (s1.trans g.same).trans (su.trans sv)
        refine ⟨_, rfl, _, _, _, _, _, rfl, st' _ _ hD, T.kDesk, T.nDesk_bits, dk_bits, v, M, st.wide, rfl, SqL.of upd_same, hn7, by omega, fun H2 u f2 s2 hu => k.same d (st'.free f2) (st'.trans s2) hu⟩
    · unfold aOut at k
      rw [onP_no c] at k
      exact k.no d (Same.refl H) nd
end
end Rt

/-! Plain laws, part 5: the classes -/
namespace Rt
open VapktBase (Rule Action Table Rewrite)
abbrev P3 := Nat × Vapktb.Outcome × Vapktb.Outcome
def otherH (n : Nat) (t u : Table) : List Nat := hds n fun h => Vapktb.outcome t h != Vapktb.outcome u h
def pairsL (n : Nat) (t u : Table) : List P3 := (otherH n t u).map fun h => (h, Vapktb.outcome t h, Vapktb.outcome u h)
theorem other_size (n : Nat) (t u : Table) : VapktBase.size n (Vapktb.otherSet n t u) = (otherH n t u).length := size_of n _
theorem other_told (n : Nat) (t u : Table) : Vapktb.setTold n (Vapktb.otherSet n t u) = setL n (otherH n t u) := setTold_of n _
theorem pairs_heads (n : Nat) (t u : Table) : (pairsL n t u).map (·.1) = otherH n t u := by
  unfold pairsL
  rw [List.map_map]
  exact List.map_id _
def kap (x : P3) : Nat × Nat := (Vapktb.sortOf x.2.1, Vapktb.sortOf x.2.2)
def hsOf (ps : List P3) (k : Nat × Nat) : List Nat := (ps.filter fun x => kap x == k).map (·.1)
theorem hsOf_snoc (ps : List P3) (x : P3) (k : Nat × Nat) : hsOf (ps ++ [x]) k = hsOf ps k ++ (if kap x = k then [x.1] else []) := by
  unfold hsOf
  rw [List.filter_append, List.map_append]
  congr 1
  by_cases c : kap x = k
  · rw [if_pos c, List.filter_cons, if_pos (by rw [c, beq_self_eq_true])]
    rfl
  · rw [if_neg c, List.filter_cons, if_neg (by rw [beq_iff_eq]; exact c)]
    rfl
theorem hsOf_ne {ps : List P3} {k : Nat × Nat} : hsOf ps k ≠ [] ↔ ∃ x ∈ ps, kap x = k := by
  unfold hsOf
  rw [Ne, List.map_eq_nil_iff, List.filter_eq_nil_iff]
  constructor
  · intro h
    refine Classical.byContradiction fun c => h fun x hx => ?_
    rw [beq_iff_eq]
    exact fun e => c ⟨x, hx, e⟩
  · rintro ⟨x, hx, e⟩ h
    exact h x hx (by rw [e, beq_self_eq_true])
theorem hsOf_len (ps : List P3) (k : Nat × Nat) : (hsOf ps k).length ≤ ps.length := by
  unfold hsOf
  rw [List.length_map]
  exact List.length_filter_le _ _
def ltN (p q : Nat × Nat) : Prop := p.1 < q.1 ∨ (p.1 = q.1 ∧ p.2 < q.2)
theorem ltN_asym {p q : Nat × Nat} (h : ltN p q) : ¬ ltN q p := by
  unfold ltN at *
  omega
theorem ext_sorted {α : Type} {R : α → α → Prop} (as : ∀ {a b : α}, R a b → ¬ R b a) : ∀ {l l' : List α}, l.Pairwise R → l'.Pairwise R → (∀ x, x ∈ l ↔ x ∈ l') → l = l'
  | [], [], _, _, _ => rfl
  | [], y :: l', _, _, h => absurd ((h y).mpr List.mem_cons_self) List.not_mem_nil
  | x :: l, [], _, _, h => absurd ((h x).mp List.mem_cons_self) List.not_mem_nil
  | x :: l, y :: l', p, p', h => by
    obtain ⟨p1, p2⟩ := List.pairwise_cons.mp p
    obtain ⟨q1, q2⟩ := List.pairwise_cons.mp p'
    have e : x = y := by
      rcases List.mem_cons.mp ((h x).mp List.mem_cons_self) with e | e
      · exact e
      · rcases List.mem_cons.mp ((h y).mpr List.mem_cons_self) with e' | e'
        · exact e'.symm
        · exact absurd (q1 x e) (as (p1 y e'))
    subst e
    refine congrArg (x :: ·) (ext_sorted as p2 q2 fun z => ⟨fun hz => ?_, fun hz => ?_⟩)
    · rcases List.mem_cons.mp ((h z).mp (List.mem_cons_of_mem _ hz)) with e | e
      · exact absurd (e ▸ p1 z hz) fun q => as q q
      · exact e
    · rcases List.mem_cons.mp ((h z).mpr (List.mem_cons_of_mem _ hz)) with e | e
      · exact absurd (e ▸ q1 z hz) fun q => as q q
      · exact e
/-- the pairs of sorts, in order -/
def K2 : List (Nat × Nat) := (List.range 8).flatMap fun a => (List.range 8).map fun b => (a, b)
theorem K2_sorted : K2.Pairwise ltN := (by decide +kernel : K2.Pairwise fun p q : Nat × Nat => p.1 < q.1 ∨ (p.1 = q.1 ∧ p.2 < q.2))
theorem mem_K2 {k : Nat × Nat} : k ∈ K2 ↔ k.1 < 8 ∧ k.2 < 8 := by
  unfold K2
  simp only [List.mem_flatMap, List.mem_map, List.mem_range]
  constructor
  · rintro ⟨a, ha, b, hb, rfl⟩
    exact ⟨ha, hb⟩
  · rintro ⟨h1, h2⟩
    exact ⟨k.1, h1, k.2, h2, rfl⟩
theorem sort_lt {n : Nat} {t : Table} (wf : WFT n t) (h : Nat) : Vapktb.sortOf (Vapktb.outcome t h) < 8 := by
  by_cases c : cnt t h = t.length
  · rw [out_hole c]
    decide
  · obtain ⟨r, hr, ho, _⟩ := out_at c
    rw [ho]
    have wr := (wf.2 r (List.mem_of_getElem? hr)).2
    cases ha : r.action with
    | drop => show 1 < 8; decide
    | send rw' port =>
      rw [ha] at wr
      have := wr.2.2.2
      show port + 2 < 8
      omega
def mkC (ps : List P3) (k : Nat × Nat) : Option Vapktb.Class_ := (hsOf ps k).head?.map fun h => ⟨k.1, k.2, (hsOf ps k).length, h⟩
theorem fm_flat {α β γ : Type} (g : α → List β) (m : β → Option γ) : ∀ l : List α, (l.flatMap g).filterMap m = l.flatMap fun a => (g a).filterMap m
  | [] => rfl
  | a :: l => by rw [List.flatMap_cons, List.flatMap_cons, List.filterMap_append, fm_flat g m l]
theorem classes_eq (n : Nat) (t u : Table) : Vapktb.classesOf n t u = K2.filterMap (mkC (pairsL n t u)) := by
  have e1 : VapktBase.members n (Vapktb.otherSet n t u) = otherH n t u := members_setOf n _
  unfold Vapktb.classesOf K2
  rw [fm_flat, e1]
  show (List.range 8).flatMap _ = _
  congr 1
  funext a
  rw [List.filterMap_map]
  show (List.range 8).filterMap _ = _
  congr 1
  funext b
  have e2 : (otherH n t u).filter (fun h => Vapktb.sortOf (Vapktb.outcome t h) == a && Vapktb.sortOf (Vapktb.outcome u h) == b) = hsOf (pairsL n t u) (a, b) := by
    unfold hsOf pairsL
    rw [List.filter_map, List.map_map]
    have : ((fun x : P3 => x.1) ∘ fun h => (h, Vapktb.outcome t h, Vapktb.outcome u h)) = id := rfl
    rw [this, List.map_id]
    rfl
  show ((otherH n t u).filter _).head?.map _ = (hsOf (pairsL n t u) (a, b)).head?.map _
  rw [e2]
def rowOf (ps : List P3) (k : Nat × Nat) : List Int := [(k.1 : Nat), (k.2 : Nat), ((hsOf ps k).length : Nat), ((hsOf ps k).headD 0 : Nat)]
theorem fm_rows (ps : List P3) : ∀ l : List (Nat × Nat), (l.filterMap (mkC ps)).flatMap (fun c => [Vapktb.int c.was, Vapktb.int c.now, Vapktb.int c.count, Vapktb.int c.least]) = (l.filter fun k => !(hsOf ps k).isEmpty).flatMap (rowOf ps) ∧
    (l.filterMap (mkC ps)).length = (l.filter fun k => !(hsOf ps k).isEmpty).length
  | [] => ⟨rfl, rfl⟩
  | k :: l => by
    obtain ⟨i1, i2⟩ := fm_rows ps l
    cases e : hsOf ps k with
    | nil =>
      have m : mkC ps k = none := by unfold mkC; rw [e]; rfl
      rw [List.filterMap_cons_none m, List.filter_cons, e]
      exact ⟨i1, i2⟩
    | cons h r =>
      have m : mkC ps k = some ⟨k.1, k.2, (hsOf ps k).length, h⟩ := by unfold mkC; rw [e]; rfl
      rw [List.filterMap_cons_some m, List.filter_cons, e]
      show _ ∧ _ = (k :: _).length
      refine ⟨?_, by rw [List.length_cons, List.length_cons, i2]⟩
      rw [List.flatMap_cons, i1]
      show _ = (k :: List.filter _ l).flatMap (rowOf ps)
      rw [List.flatMap_cons]
      congr 1
      unfold rowOf
      rw [e]
      rfl
def toI (k : Nat × Nat) : Int × Int := ((k.1 : Nat), (k.2 : Nat))
theorem toI_inj {k k' : Nat × Nat} (h : toI k = toI k') : k = k' := by
  have h1 := congrArg Prod.fst h
  have h2 := congrArg Prod.snd h
  exact Prod.ext (Int.ofNat.inj h1) (Int.ofNat.inj h2)
def leI (p q : Int × Int) : Prop := p.1 < q.1 ∨ (p.1 = q.1 ∧ p.2 ≤ q.2)
theorem back_map : ∀ {qs : List (Int × Int)}, (∀ q ∈ qs, ∃ k, q = toI k) → ∃ ks : List (Nat × Nat), qs = ks.map toI
  | [], _ => ⟨[], rfl⟩
  | q :: qs, h => by
    obtain ⟨k, rfl⟩ := h q List.mem_cons_self
    obtain ⟨ks, rfl⟩ := back_map fun q hq => h q (List.mem_cons_of_mem _ hq)
    exact ⟨k :: ks, rfl⟩
theorem sorted_keys {n : Nat} {t u : Table} (wt : WFT n t) (wu : WFT n u) {ks : List (Nat × Nat)} (nd : ks.Nodup) (hm : ∀ k, k ∈ ks ↔ ∃ x ∈ pairsL n t u, kap x = k) {qs : List (Int × Int)} (hp : qs.Perm (ks.map toI)) (hs : qs.Pairwise leI) :
    qs = (K2.filter fun k => !(hsOf (pairsL n t u) k).isEmpty).map toI := by
  obtain ⟨kk, rfl⟩ := back_map (qs := qs) fun q hq => by
    obtain ⟨k, _, e⟩ := List.mem_map.mp (hp.mem_iff.mp hq)
    exact ⟨k, e.symm⟩
  have ndq : (kk.map toI).Nodup := hp.nodup_iff.mpr (List.Pairwise.map toI (fun a b h e => h (toI_inj e)) nd)
  refine congrArg (List.map toI) (ext_sorted ltN_asym ?_ (List.Pairwise.filter _ K2_sorted) fun k => ?_)
  · have h1 := List.pairwise_map.mp hs
    have h2 := List.pairwise_map.mp ndq
    refine (List.Pairwise.and h1 h2).imp ?_
    rintro a b ⟨h, ne⟩
    unfold leI toI at h
    unfold ltN
    rcases h with h | ⟨h, h'⟩
    · exact .inl (Int.ofNat_lt.mp h)
    · refine .inr ⟨Int.ofNat.inj h, ?_⟩
      have h' : a.2 ≤ b.2 := Int.ofNat_le.mp h'
      rcases Nat.lt_or_ge a.2 b.2 with c | c
      · exact c
      · exact absurd (congrArg toI (Prod.ext (Int.ofNat.inj h) (Nat.le_antisymm h' c))) ne
  · have e : k ∈ kk ↔ k ∈ ks := by
      have := hp.mem_iff (a := toI k)
      rw [List.mem_map, List.mem_map] at this
      constructor
      · intro h
        obtain ⟨k', h', e'⟩ := this.mp ⟨k, h, rfl⟩
        exact toI_inj e' ▸ h'
      · intro h
        obtain ⟨k', h', e'⟩ := this.mpr ⟨k, h, rfl⟩
        exact toI_inj e' ▸ h'
    rw [e, hm k, List.mem_filter, mem_K2, ← hsOf_ne]
    constructor
    · intro h
      refine ⟨?_, by cases e : hsOf (pairsL n t u) k with | nil => exact absurd e h | cons a b => rfl⟩
      obtain ⟨x, hx, rfl⟩ := hsOf_ne.mp h
      unfold pairsL at hx
      obtain ⟨h', _, rfl⟩ := List.mem_map.mp hx
      exact ⟨sort_lt wt h', sort_lt wu h'⟩
    · rintro ⟨_, h⟩ z
      rw [z] at h
      cases h
def classAns (n : Nat) (t u : Table) : List Int := Vapktb.int (Vapktb.classesOf n t u).length :: (Vapktb.classesOf n t u).flatMap fun c => [Vapktb.int c.was, Vapktb.int c.now, Vapktb.int c.count, Vapktb.int c.least]
theorem class_ans {n : Nat} {t u : Table} (wt : WFT n t) (wu : WFT n u) {ks : List (Nat × Nat)} (nd : ks.Nodup) (hm : ∀ k, k ∈ ks ↔ ∃ x ∈ pairsL n t u, kap x = k) {qs : List (Int × Int)} (hp : qs.Perm (ks.map toI)) (hs : qs.Pairwise leI) :
    ∃ kk : List (Nat × Nat), qs = kk.map toI ∧ (∀ k ∈ kk, k ∈ ks) ∧ kk.length = ks.length ∧ classAns n t u = (ks.length : Int) :: kk.flatMap (rowOf (pairsL n t u)) := by
  have e := sorted_keys wt wu nd hm hp hs
  refine ⟨_, e, fun k hk => ?_, ?_, ?_⟩
  · have : toI k ∈ qs := by rw [e]; exact List.mem_map.mpr ⟨k, hk, rfl⟩
    obtain ⟨k', h', e'⟩ := List.mem_map.mp (hp.mem_iff.mp this)
    exact toI_inj e' ▸ h'
  · have := hp.length_eq
    rw [e, List.length_map, List.length_map] at this
    exact this
  · have := hp.length_eq
    rw [e, List.length_map, List.length_map] at this
    unfold classAns
    rw [classes_eq, (fm_rows _ _).1, (fm_rows _ _).2, this]
    rfl
end Rt

/-! sent_as, pairs, other -/
namespace Rt
open PySem PySem.Spec PyProof.Rows L2
open VapktBase (Rule Action Table Rewrite)
open Vapktb (State)
section
variable {P : Program} {w : World} {K : PySem.W.Frag} {mg : Str → Option Value} {base : Heap}
def patI (p : Pat) : List Int := [(p.told : Nat), (p.bits : Nat)]
def patD (p : Pat) : PyData := .tuple ((patI p).map PyData.int)
theorem patI_inj {p q : Pat} (h : patI p = patI q) : p = q := by
  obtain ⟨a, b⟩ := p
  obtain ⟨c, d⟩ := q
  simp [patI] at h
  obtain ⟨h1, h2⟩ := h
  have h1 : a = c := by omega
  have h2 : b = d := by omega
  subst h1 h2
  rfl
theorem eqv_pat (p q : Pat) : PyData.eqv (patD p) (patD q) = decide (p = q) := by
  unfold patD
  rw [eqv_tuple eqv_int]
  by_cases e : p = q
  · subst e; simp
  · rw [decide_eq_false e, decide_eq_false fun z => e (patI_inj z)]
theorem dp_pat {H : Hp} {a : Addr} {p : Pat} (h : PatAt H a p) : Dp K H (.ref a) (patD p) := dp_inttup (ns := patI p) (SqT.of h)
theorem sh_pats (l : List Pat) : SeqAt.shaped (.list (l.map patD)) = true := (fl_list (f := patD) (fun o => fl_tuple (fun i => fl_int i) (patI o)) l).shaped (by decide)
theorem dp_pats {H : Hp} {a : Addr} {l : List Pat} (h : LstAt PatAt H a l) : Dp K H (.ref a) (.list (l.map patD)) :=
  let ⟨as, h1, h2⟩ := h; .lst (SqL.of h1) (dp_all (fun _ _ q => dp_pat q) h2)
def aFrom (st : State) (i : Nat) (z : Int) (l : List Int) : State × List Int := onP st i z fun t k => match Vapktb.setOfPatterns st.wide l with
  | none => [-1]
  | some x => Vapktb.setTold st.wide (Vapktb.fromSet st.wide t k x)
theorem filter_snocA {α : Type} (f : α → Bool) {l : List α} {i : Nat} {x : α} (h : l[i]? = some x) : (l.take (i + 1)).filter f = (l.take i).filter f ++ (if f x = true then [x] else []) := by
  rw [take_one h, List.filter_append]
  cases e : f x <;> simp [e]
theorem any_filter {α : Type} (f : α → Bool) (l : List α) : (!decide (l.filter f = [])) = l.any f := by
  induction l with
  | nil => rfl
  | cons x l ih =>
    rw [List.filter_cons, List.any_cons]
    cases e : f x with
    | true => rw [if_pos rfl]; simp
    | false => rw [if_neg Bool.false_ne_true, ih, Bool.false_or]
theorem ok_Desk_sent_as (T : Txt K mg) : FnOk P w K mg base (L2.CX P w) 10 T.Desk_sent_as.f T.Desk_sent_as.fd ["self", "which", "port", "numbers"] (spDZN K T.cDesk T.cRef T.cNR aFrom) := by
  refine T.Desk_sent_as.fn.okX sc_Desk_sent_as (fun vs H Q E h => ?_) (fun cdv A outer s H vs Q E hr h => ⟨_, (pss_cons (ps_set (i := 4) sc_Desk_sent_as.nd rfl (Or.inl rfl) (pe_meth (pv 0) T.kDesk T.Desk_sent_by.me (ok_Desk_sent_by T) (hr.mono (by decide)) T.Desk_sent_by.bd .nil (passes_call (takes_of rfl rfl rfl rfl) (fun _ _ _ _ h => h)) (pa_cons (pv 1) (pa_cons (pv 2) pa_nil))))
      (pss_cons (ps_set (i := 5) sc_Desk_sent_as.nd rfl (Or.inl rfl) (pe_call (ok_patterns_in T) (hr.mono (by decide)) rfl T.patterns_in.gl T.patterns_in.kp T.patterns_in.bd .nil (passes_call (takes_of rfl rfl rfl rfl) (fun _ _ _ _ h => h)) (pa_cons (pv 3) (pa_cons (pe_fld (pv 0) rfl) pa_nil))))
      (pss_cons (ps_set (i := 6) sc_Desk_sent_as.nd rfl (Or.inl rfl) (pe_lst pa_nil))
      (pss_cons (ps_for (passes_of rfl) rfl (pi_list (pv 4)) (pg_tup rfl (pgs_cons (pg_name (i := 7) sc_Desk_sent_as.nd rfl (Or.inl rfl)) (pgs_cons (pg_name (i := 8) sc_Desk_sent_as.nd rfl (Or.inr rfl)) pgs_nil))) (pss_one (ps_if (pt_cmpR (op_neD hr.units) (pe_lc (own := [("pattern", 9)]) rfl sc_Desk_sent_as.nd (pi_list (pv 5)) (blkOk_by (own := [("pattern", 9)]) (N := ["self", "which", "port", "numbers", "some", "patterns", "found", "header", "sent", "pattern"]) (sc := defScope s_Desk_sent_as) (by decide +kernel)) (fun _ _ _ _ _ => (pg_name (i := 9) sc_Desk_sent_as.nd rfl (Or.inl rfl))) (fun _ _ _ _ _ => pts_one (pt_val (pe_call (ok_matchesD T) (hr.mono (by decide)) rfl T.matchesD.gl T.matchesD.kp T.matchesD.bd .nil pass0 (pa_cons (pv 8) (pa_cons (pv 9) pa_nil))))) (fun _ _ _ _ _ => (pv 9))) (pe_lst pa_nil) (nomark _)) (pss_one (ps_expr (pe_bm PySem.F.plainAttrs_list PySem.F.slot_list_append PySem.F.type_list_append mt_append (pv 6) (pa_cons (pv 7) pa_nil)))) pss_nil)))
      (pss_one (ps_ret (pe_call (ok_set_numbers T) (hr.mono (by decide)) rfl T.set_numbers.gl T.set_numbers.kp T.set_numbers.bd .nil pass0 (pa_cons (pv 6) (pa_cons (pe_fld (pv 0) rfl) pa_nil))))))))), ?_⟩)
  · obtain ⟨D, Tt, na, st, i, z, l, rfl, _⟩ := h
    rfl
  · obtain ⟨D, Tt, na, st, i, z, l, rfl, d, hi, hS, k⟩ := h
    obtain ⟨dx, xs, a, hD, hT, hat, hix, ht, wf, hn1, hn7⟩ := d.view hi
    refine ⟨_, rfl, D, _, _, rfl, hD, dk_no, _, rfl, _, rfl, D, Tt, st, i, z, rfl, d, hi, fun p e hp H1 q s1 hq => ?_, fun c d' nd => ?_⟩
    · subst e
      have e : aFrom st i (p : Nat) l = _ := onP_yes hp
      rw [e, setOfPatterns_eq] at k
      refine ⟨_, rfl, _, rfl, _, _, _, _, _, rfl, s1 _ _ hD, T.kDesk, T.nDesk_bits, dk_bits, na, l, st.wide, rfl, s1.seq hS, hn7, fun ps e H2 pp s2 hps => ?_, fun e H2 s2 => ?_⟩
      · rw [e] at k
        have k : Told T.cDesk T.cRef T.cNR H D Tt Q E (st, Vapktb.setTold st.wide (Vapktb.fromSet st.wide (Vapktb.tableAt st i) p (ps.foldl (fun s p => VapktBase.either s (VapktBase.patternSet st.wide p)) 0))) := k
        rw [from_heads wf] at k
        have hlen := sent_len st.wide (Vapktb.tableAt st i) p
        have pl := pow_le hn7
        have p8 := (patsOf_wf e).1
        generalize sentL st.wide (Vapktb.tableAt st i) p = sl at hq k hlen
        obtain ⟨qs, hq1, hq2⟩ := hq
        obtain ⟨pa, hp1, hp2⟩ := hps
        have s12 := s1.trans s2
        refine ⟨(by show 0 ≤ sizeLine; decide), fun F nF => ?_⟩
        have sF := snew (o := .lst []) nF
        have g0 : GrownI H (upd H2 F (.lst [])) F [] := ⟨upd_same, s12.trans sF, s12.free nF⟩
        refine ⟨_, rfl, q, rfl, ⟨_, SqL.of (sF _ _ (s2 _ _ hq1))⟩, ?_⟩
        refine for_list (K := K) (a := q) (xs := qs.map V.ref) (fun j σ H' => (∃ v7 v8 v9 : Option V, σ = [some (.ref D), some (.int (i : Nat)), some (.int (p : Nat)), some (.ref na), some (.ref q), some (.ref pp), some (.ref F), v7, v8, v9]) ∧ Same H2 H' ∧ H' F = some (.lst (natV (((sl.take j).filter fun x => ps.any fun q => VapktBase.matchesIt q x.2).map (·.1)))))
          ⟨⟨none, none, none, rfl⟩, sF, upd_same⟩ (fun j σ H' _ z => SqL.of (z.2.1 _ _ (s2 _ _ hq1))) ?_ ?_
        · rintro j x σ H' hx ⟨⟨v7, v8, v9, rfl⟩, s, hF⟩
          obtain ⟨ra, hra, rfl⟩ := refs_of_at hx
          obtain ⟨y, hy, hY⟩ := Paired.at' hq2 hra
          have hY' : PrAt H' ra y := s _ _ (s2 _ _ hY)
          refine ⟨ra, _, rfl, SqT.of hY', rfl, _, _, rfl, _, _, rfl, rfl, ?_⟩
          refine ⟨_, rfl, pp, rfl, ⟨_, SqL.of (s _ _ hp1)⟩, fun G nG => ?_⟩
          refine lc_list (xs := pa.map V.ref) (fun m H'' => Grown PatAt H' H'' G ((ps.take m).filter fun q => VapktBase.matchesIt q y.2)) (Grown.start (Same.refl H') nG) (fun m H'' _ g => SqL.of (g.same _ _ (s _ _ hp1))) (fun m x H'' hx g => ?_) (fun H'' g => ?_)
          · obtain ⟨pb, hpb, rfl⟩ := refs_of_at hx
            obtain ⟨pt, hpt, hP⟩ := Paired.at' hp2 hpb
            have hP' : PatAt H'' pb pt := g.same _ _ (s _ _ hP)
            refine ⟨rfl, _, rfl, _, rfl, y.2, pb, pt, rfl, hP', _, rfl, ?_⟩
            rw [filter_snocA _ hpt]
            cases cm : VapktBase.matchesIt pt y.2 with
            | true =>
              refine ifT rfl ⟨_, rfl, ?_⟩
              obtain ⟨l, g1, g2, g3⟩ := g.more (x := pt) (p := pb) pat_tups (Same.refl _) hP'
              refine ⟨l, g1, size1000 ?_, ?_⟩
              · have := List.length_filter_le (fun q => VapktBase.matchesIt q y.2) (ps.take m)
                rw [List.length_take] at this
                rw [g2]
                exact Nat.le_trans this (by omega)
              · rw [if_pos rfl]
                exact g3
            | false =>
              refine ifF rfl ?_
              rw [if_neg Bool.false_ne_true, List.append_nil]
              exact g
          · rw [List.length_map, Paired.len hp2, List.take_length] at g
            refine ⟨(by show 0 ≤ sizeLine; decide), fun Z nZ => ?_⟩
            have sZ := snew (o := .lst []) nZ
            have hZ : LstAt PatAt (upd H'' Z (.lst [])) Z [] := ⟨[], upd_same, .nil⟩
            refine ⟨_, _, dp_pats (g.on pat_tups sZ).lst, dp_pats hZ, sh_pats _, sh_pats _, _, rfl, ?_⟩
            have eB : (!PyData.eqv (.list ((ps.filter fun q => VapktBase.matchesIt q y.2).map patD)) (.list (([] : List Pat).map patD))) = ps.any fun q => VapktBase.matchesIt q y.2 := by
              rw [eqv_list eqv_pat, any_filter]
            rw [eB]
            have s' := g.same.trans sZ
            have hF' := s' _ _ hF
            rw [filter_snocA (fun x : Nat × Nat => ps.any fun q => VapktBase.matchesIt q x.2) hy]
            cases cm : ps.any fun q => VapktBase.matchesIt q y.2 with
            | true =>
              refine ifT rfl ⟨_, rfl, .inl ⟨rfl, _, SqL.of hF'⟩, _, rfl, F, _, _, rfl, rfl, hF', size1000 ?_, ⟨_, _, _, rfl⟩, ?_, ?_⟩
              · rw [natV_len, List.length_map]
                have := List.length_filter_le (fun x : Nat × Nat => ps.any fun q => VapktBase.matchesIt q x.2) (sl.take j)
                rw [List.length_take] at this
                omega
              · intro b o e
                rw [upd_ne (ne_of_none e nF)]
                exact s' _ _ (s _ _ e)
              · rw [upd_same, if_pos rfl, List.map_append]
                show some (HO.lst _) = some (HO.lst ((natI (_ ++ [y.1])).map V.int))
                rw [natI_snoc, List.map_append]
                rfl
            | false =>
              refine ifF rfl ⟨⟨_, _, _, rfl⟩, s.trans s', ?_⟩
              rw [if_neg Bool.false_ne_true, List.append_nil]
              exact hF'
        · rintro σ H' ⟨⟨v7, v8, v9, rfl⟩, s, hF⟩
          rw [List.length_map, Paired.len hq2, List.take_length] at hF
          have st' := s12.trans s
          refine ⟨_, rfl, _, rfl, _, _, _, _, _, rfl, st' _ _ hD, T.kDesk, T.nDesk_bits, dk_bits, F, _, st.wide, rfl, SqL.of hF, hn7, ?_, fun H3 u f3 s3 hu => k.same d (st'.free f3) (st'.trans s3) hu⟩
          rw [List.length_map]
          have := List.length_filter_le (fun x : Nat × Nat => ps.any fun q => VapktBase.matchesIt q x.2) sl
          omega
      · rw [e] at k
        exact k.bads d (s1.trans s2)
    · unfold aFrom at k
      rw [onP_no c] at k
      exact k.no d (Same.refl H) nd
/-- a header, what becomes of it -/
def TrAt (H : Hp) (a : Addr) (x : P3) : Prop := ∃ b c, H a = some (.tup [.int (x.1 : Nat), .ref b, .ref c]) ∧ OutAt H b x.2.1 ∧ OutAt H c x.2.2
theorem tr_tups : OnTups TrAt := fun _ _ _ _ s h => let ⟨b, c, h1, h2, h3⟩ := h; ⟨b, c, s _ _ h1, s _ _ h2, s _ _ h3⟩
def spPairs (C : Addr) : Sp := fun vs H Q _ => ∃ (D Tt : Addr) (st : State), vs = [.ref D] ∧ DeskAt C H D Tt st ∧ ∀ H' p, H p = none → Same H H' → LstAt TrAt H' p (pairsL st.wide (Vapktb.tableAt st 0) (Vapktb.tableAt st 1)) → Q (.ref p) H'
theorem outs_at {n : Nat} {t : Table} {h : Nat} (hh : h < 2 ^ n) : (outs n t)[h]? = some (Vapktb.outcome t h) := by
  unfold outs
  rw [List.getElem?_map, List.getElem?_range hh]
  rfl
theorem ok_Desk_pairs (T : Txt K mg) : FnOk P w K mg base CX0 5 T.Desk_pairs.f T.Desk_pairs.fd ["self"] (spPairs T.cDesk) := by
  refine T.Desk_pairs.fn.ok sc_Desk_pairs (fun vs H Q E h => ?_) (fun cdv A outer s H vs Q E hr h => ⟨_, (pss_cons (ps_set (i := 1) sc_Desk_pairs.nd rfl (Or.inr rfl) (pe_call (ok_outcomes T) (hr.mono (by decide)) rfl T.outcomes.gl T.outcomes.kp T.outcomes.bd .nil pass0 (pa_cons (pe_ix ix_list (pe_fld (pv 0) rfl) pe_int (fun _ _ => rfl)) (pa_cons (pe_fld (pv 0) rfl) pa_nil))))
      (pss_cons (ps_set (i := 2) sc_Desk_pairs.nd rfl (Or.inr rfl) (pe_call (ok_outcomes T) (hr.mono (by decide)) rfl T.outcomes.gl T.outcomes.kp T.outcomes.bd .nil pass0 (pa_cons (pe_ix ix_list (pe_fld (pv 0) rfl) pe_int (fun _ _ => rfl)) (pa_cons (pe_fld (pv 0) rfl) pa_nil))))
      (pss_one (ps_ret (pe_lc (own := [("header", 3)]) rfl sc_Desk_pairs.nd (pi_list (pe_meth0 (pv 0) T.kDesk T.Desk_headers.me (ok_Desk_headers T) (hr.mono (by decide)) T.Desk_headers.bd .nil pass0)) (blkOk_by (own := [("header", 3)]) (N := ["self", "first", "second", "header"]) (sc := defScope s_Desk_pairs) (by decide +kernel)) (fun _ _ _ _ _ => (pg_name (i := 3) sc_Desk_pairs.nd rfl (Or.inl rfl))) (fun _ _ _ _ _ => pts_one (pt_cmpR (r := rNeD K) (op_neD hr.units) (pe_ix (r := rIxL K) ix_list (pv 1) (pv 3) (fun _ _ => rfl)) (pe_ix (r := rIxL K) ix_list (pv 2) (pv 3) (fun _ _ => rfl)) (nomark _))) (fun _ _ _ _ _ => (pe_tup (pa_cons (pv 3) (pa_cons (pe_ix (r := rIxL K) ix_list (pv 1) (pv 3) (fun _ _ => rfl)) (pa_cons (pe_ix (r := rIxL K) ix_list (pv 2) (pv 3) (fun _ _ => rfl)) pa_nil)))))))))), ?_⟩)
  · obtain ⟨D, Tt, st, rfl, _⟩ := h
    rfl
  · obtain ⟨D, Tt, st, rfl, d, k⟩ := h
    obtain ⟨dx, xs, a, hD, hT, hat, hix, ht, wf, hn1, hn7⟩ := d.view (i := 0) (by decide)
    obtain ⟨dx', xs', a', hD', hT', hat', hix', ht', wf', _, _⟩ := d.view (i := 1) (by decide)
    have pl := pow_le hn7
    generalize Vapktb.tableAt st 0 = t at *
    generalize Vapktb.tableAt st 1 = u at *
    refine ⟨_, rfl, _, _, _, _, _, rfl, hD, T.kDesk, T.nDesk_tables, dk_tables, _, _, _, _, rfl, rfl, SqL.of hT, hat, _, rfl, _, _, _, _, _, rfl, hD, T.kDesk, T.nDesk_bits, dk_bits, a, t, st.wide, rfl, ht, hn7, fun H1 p1 s1 h1 => ?_⟩
    refine ⟨_, rfl, _, _, _, _, _, rfl, s1 _ _ hD, T.kDesk, T.nDesk_tables, dk_tables, _, _, _, _, rfl, rfl, SqL.of (s1 _ _ hT'), hat', _, rfl, _, _, _, _, _, rfl, s1 _ _ hD, T.kDesk, T.nDesk_bits, dk_bits, a', u, st.wide, rfl, TabAt.same s1 ht', hn7, fun H2 p2 s2 h2 => ?_⟩
    have s12 := s1.trans s2
    obtain ⟨as, ha1, ha2⟩ := h1
    obtain ⟨bs, hb1, hb2⟩ := h2
    refine ⟨_, rfl, D, _, _, rfl, s12 _ _ hD, dk_no, D, Tt, st, rfl, d.same s12, fun H3 q s3 hq => ?_⟩
    have s13 := s12.trans s3
    refine ⟨q, rfl, ⟨_, SqL.of hq⟩, fun F nF => ?_⟩
    refine lc_list (xs := natV (allH st.wide)) (fun j H' => Grown TrAt H3 H' F ((((allH st.wide).take j).filter fun h => Vapktb.outcome t h != Vapktb.outcome u h).map fun h => (h, Vapktb.outcome t h, Vapktb.outcome u h))) (Grown.start (Same.refl H3) nF) (fun j H' _ g => SqL.of (g.same _ _ hq)) (fun j x H' hx g => ?_) (fun H' g => ?_)
    · obtain ⟨h, hh, rfl⟩ := natV_at hx
      have hlt : h < 2 ^ st.wide := List.mem_range.mp (List.mem_of_getElem? hh)
      obtain ⟨ra, hra, o1⟩ := Paired.at ha2 (outs_at (t := t) hlt)
      obtain ⟨rb, hrb, o2⟩ := Paired.at hb2 (outs_at (t := u) hlt)
      have sg := s3.trans g.same
      have x1 := (s2.trans sg) _ _ ha1
      have x2 := sg _ _ hb1
      have y1 := o1.same (s2.trans sg)
      have y2 := o2.same sg
      refine ⟨rfl, _, rfl, _, rfl, p1, _, _, _, rfl, rfl, SqL.of x1, atI_nat (refs_at hra), _, rfl, _, rfl, p2, _, _, _, rfl, rfl, SqL.of x2, atI_nat (refs_at hrb), _, _, dp_out y1, dp_out y2, sh_out _, sh_out _, _, rfl, ?_⟩
      rw [eqv_out, filter_snocA (fun h => Vapktb.outcome t h != Vapktb.outcome u h) hh]
      have lz : (((allH st.wide).take j).filter fun h => Vapktb.outcome t h != Vapktb.outcome u h).length ≤ 128 := by
        have := List.length_filter_le (fun h => Vapktb.outcome t h != Vapktb.outcome u h) ((allH st.wide).take j)
        rw [List.length_take] at this
        have e : (allH st.wide).length = 2 ^ st.wide := by unfold allH; rw [List.length_range]
        omega
      by_cases c : Vapktb.outcome t h = Vapktb.outcome u h
      · refine ifF (by rw [decide_eq_true c]; rfl) ?_
        rw [if_neg (by rw [bne_iff_ne]; exact fun z => z c), List.append_nil]
        exact g
      · refine ifT (by rw [decide_eq_false c]; rfl) ⟨_, rfl, _, rfl, _, rfl, p1, _, _, _, rfl, rfl, SqL.of x1, atI_nat (refs_at hra), _, rfl, _, rfl, p2, _, _, _, rfl, rfl, SqL.of x2, atI_nat (refs_at hrb), (by show 3 ≤ sizeLine; decide), fun e ne => ?_⟩
        have se := snew (o := .tup [.int (h : Nat), .ref ra, .ref rb]) ne
        obtain ⟨l, g1, g2, g3⟩ := g.more (x := (h, Vapktb.outcome t h, Vapktb.outcome u h)) (p := e) tr_tups se ⟨ra, rb, upd_same, y1.same se, y2.same se⟩
        refine ⟨l, g1, size1000 (by rw [g2, List.length_map]; omega), ?_⟩
        rw [if_pos (by rw [bne_iff_ne]; exact c), List.map_append]
        exact g3
    · rw [natV_len, List.take_length] at g
      exact k H' F (s13.free g.new) (s13.trans g.same) g.lst
def aOther (st : State) : State × List Int := (st, Vapktb.int (VapktBase.size st.wide (Vapktb.otherSet st.wide (Vapktb.tableAt st 0) (Vapktb.tableAt st 1))) :: Vapktb.setTold st.wide (Vapktb.otherSet st.wide (Vapktb.tableAt st 0) (Vapktb.tableAt st 1)))
def spD0 (C CR CN : Addr) (f : State → State × List Int) : Sp := fun vs H Q _ => ∃ (D Tt : Addr) (st : State) (E : XK), vs = [.ref D] ∧ DeskAt C H D Tt st ∧ Told C CR CN H D Tt Q E (f st)
theorem setL_len (n : Nat) (hs : List Nat) : (setL n hs).length ≤ 1 + 2 * hs.length := by
  unfold setL
  rw [List.length_cons, flatPats_len]
  have := pats_len n hs
  omega
theorem ok_Desk_other (T : Txt K mg) : FnOk P w K mg base CX0 10 T.Desk_other.f T.Desk_other.fd ["self"] (spD0 T.cDesk T.cRef T.cNR aOther) := by
  refine T.Desk_other.fn.ok sc_Desk_other (fun vs H Q E h => ?_) (fun cdv A outer s H vs Q E hr h => ⟨_, (pss_cons (ps_setLc (i := 1) (own := [("header", 2), ("one", 3), ("two", 4)]) rfl sc_Desk_other.nd rfl rfl (sw_true rfl rfl rfl (by decide +kernel)) (pi_list (pe_meth0 (pv 0) T.kDesk T.Desk_pairs.me (ok_Desk_pairs T) (hr.mono (by decide)) T.Desk_pairs.bd .nil pass0)) (blkOk_by (own := [("header", 2), ("one", 3), ("two", 4)]) (N := ["self", "found", "header", "one", "two"]) (sc := defScope s_Desk_other) (by decide +kernel)) (fun _ _ _ _ _ => (by show PG _ (.Tuple _ _ _) (gTup K 3 (gCons (gName 2) (gCons (gName 3) (gCons (gName 4) gNil)))); refine pg_tup rfl ?_; refine pgs_cons (pg_name (i := 2) sc_Desk_other.nd rfl (Or.inl rfl)) ?_; refine pgs_cons (pg_name (i := 3) sc_Desk_other.nd rfl (Or.inl rfl)) ?_; refine pgs_cons (pg_name (i := 4) sc_Desk_other.nd rfl (Or.inl rfl)) ?_; exact pgs_nil)) (fun _ _ _ _ _ => pts_nil) (fun _ _ _ _ _ => (pv 2)))
      (pss_one (ps_ret (pe_op op_cat (pe_lst (pa_cons (pe_callB call_len_seq (by rfl) T.zlen PySem.boot_len (pa_cons (pv 1) pa_nil)) pa_nil)) (pe_call (ok_set_numbers T) (hr.mono (by decide)) rfl T.set_numbers.gl T.set_numbers.kp T.set_numbers.bd .nil pass0 (pa_cons (pv 1) (pa_cons (pe_fld (pv 0) rfl) pa_nil))))))), ?_⟩)
  · obtain ⟨D, Tt, st, E1, rfl, _⟩ := h
    rfl
  · obtain ⟨D, Tt, st, E1, rfl, d, k⟩ := h
    obtain ⟨dx, xs, a, hD, hT, hat, hix, ht, wf, hn1, hn7⟩ := d.view (i := 0) (by decide)
    unfold aOther at k
    rw [other_size, other_told, ← pairs_heads] at k
    have pl := pow_le hn7
    have hlen : (pairsL st.wide (Vapktb.tableAt st 0) (Vapktb.tableAt st 1)).length ≤ 2 ^ st.wide := by
      unfold pairsL otherH
      rw [List.length_map]
      exact hds_len _ _
    refine ⟨_, rfl, D, _, _, rfl, hD, dk_no, D, Tt, st, rfl, d, fun H1 q _ s1 hq => ?_⟩
    generalize pairsL st.wide (Vapktb.tableAt st 0) (Vapktb.tableAt st 1) = ps at hq k hlen
    obtain ⟨qs, hq1, hq2⟩ := hq
    refine ⟨q, rfl, ⟨_, SqL.of hq1⟩, fun F nF => ?_⟩
    refine lc_list (xs := qs.map V.ref) (fun j H' => GrownI H1 H' F (natI ((ps.take j).map (·.1)))) (GrownI.start (Same.refl H1) nF) (fun j H' _ g => SqL.of (g.same _ _ hq1)) (fun j x H' hx g => ?_) (fun H' g => ?_)
    · obtain ⟨ra, hra, rfl⟩ := refs_of_at hx
      obtain ⟨y, hy, b, c, hY, _, _⟩ := Paired.at' hq2 hra
      refine ⟨ra, _, rfl, SqT.of (g.same _ _ hY), rfl, _, _, rfl, _, _, rfl, _, _, rfl, rfl, rfl, _, rfl, ?_⟩
      obtain ⟨l, g1, g2, g3⟩ := g.more (z := (y.1 : Nat)) (Same.refl _)
      refine ⟨l, g1, size1000 (by rw [g2]; unfold natI; rw [List.length_map, List.length_map, List.length_take]; omega), ?_⟩
      rw [take_one hy, List.map_append]
      show GrownI H1 _ F (natI (_ ++ [y.1]))
      rw [natI_snoc]
      exact g3
    · rw [List.length_map, Paired.len hq2, List.take_length] at g
      have sg := s1.trans g.same
      refine ⟨_, rfl, F, _, rfl, .inl (SqL.of g.lst), (by show 1 ≤ sizeLine; decide), fun p1 n1 => ?_⟩
      have e1 : ((natI (ps.map (·.1))).map V.int).length = (ps.map (·.1)).length := natV_len _
      rw [e1]
      have sp := snew (o := .lst [.int ((ps.map (·.1)).length : Nat)]) n1
      refine ⟨_, rfl, _, rfl, _, _, _, _, _, rfl, sp _ _ (sg _ _ hD), T.kDesk, T.nDesk_bits, dk_bits, F, _, st.wide, rfl, SqL.of (sp _ _ g.lst), hn7, by rw [List.length_map]; omega, fun H2 u f2 s2 hu => ?_⟩
      have st' := (sg.trans sp).trans s2
      have ls := setL_len st.wide (ps.map (·.1))
      rw [List.length_map] at ls
      refine ⟨p1, u, _, _, rfl, rfl, s2 _ _ upd_same, hu, size1000' (by rw [List.length_map (as := setL st.wide (ps.map (·.1)))]; show 1 + _ ≤ _; omega), fun v nv => k.same d (st'.free nv) (st'.trans (snew nv)) (IntsAt.new ?_)⟩
      rfl
end
end Rt

/-! classes -/
namespace Rt
open PySem PySem.Spec PyProof.Rows L2
open VapktBase (Rule Action Table Rewrite)
open Vapktb (State)
def gsK (g : (Nat × Nat) × Addr) : List L2.Key × V := ([.inl (g.1.1 : Int), .inl (g.1.2 : Int)], .ref g.2)
theorem gsK_key {g g' : (Nat × Nat) × Addr} (h : (gsK g).1 = (gsK g').1) : g.1 = g'.1 := by
  have h1 := (List.cons.inj h).1
  have h2 := (List.cons.inj (List.cons.inj h).2).1
  have h1 := Int.ofNat.inj (Sum.inl.inj h1)
  have h2 := Int.ofNat.inj (Sum.inl.inj h2)
  exact Prod.ext h1 h2
theorem gs_val {g : (Nat × Nat) × Addr} : ∀ {gs : List ((Nat × Nat) × Addr)}, (gs.map (·.1)).Nodup → g ∈ gs → valV (gs.map gsK) (gsK g).1 = some (.ref g.2)
  | g0 :: gs, nd, h => by
    obtain ⟨n1, n2⟩ := List.nodup_cons.mp nd
    rw [List.map_cons]
    by_cases c : (gsK g0).1 = (gsK g).1
    · rw [valV_pos c]
      have e := gsK_key c
      rcases List.mem_cons.mp h with rfl | h
      · rfl
      · exact absurd (List.mem_map.mpr ⟨g, h, e.symm⟩) n1
    · rw [valV_neg c]
      rcases List.mem_cons.mp h with rfl | h
      · exact absurd rfl c
      · exact gs_val n2 h
theorem gs_none {k : Nat × Nat} : ∀ {gs : List ((Nat × Nat) × Addr)}, ¬ k ∈ gs.map (·.1) → valV (gs.map gsK) [.inl (k.1 : Int), .inl (k.2 : Int)] = none
  | [], _ => rfl
  | g0 :: gs, h => by
    have e : ¬ (gsK g0).1 = [.inl (k.1 : Int), .inl (k.2 : Int)] := fun c => h (List.mem_cons.mpr (.inl (gsK_key (g := (k, 0)) (g' := g0) c.symm)))
    rw [List.map_cons, valV_neg e, gs_none fun z => h (List.mem_cons_of_mem _ z)]
structure Gs (ps : List P3) (gs : List ((Nat × Nat) × Addr)) (H1 H : Hp) : Prop where
  nd : (gs.map (·.1)).Nodup
  na : (gs.map (·.2)).Nodup
  mem : ∀ k, k ∈ gs.map (·.1) ↔ ∃ x ∈ ps, kap x = k
  at' : ∀ g ∈ gs, H g.2 = some (.lst (natV (hsOf ps g.1)))
  new : ∀ g ∈ gs, H1 g.2 = none
theorem natV_snoc (l : List Nat) (h : Nat) : natV (l ++ [h]) = natV l ++ [.int (h : Nat)] := by
  unfold natV
  rw [natI_snoc, List.map_append]
  rfl
theorem mem_snoc {ps : List P3} {x : P3} {k : Nat × Nat} : (∃ y ∈ ps ++ [x], kap y = k) ↔ (∃ y ∈ ps, kap y = k) ∨ kap x = k := by
  constructor
  · rintro ⟨y, hy, e⟩
    rcases List.mem_append.mp hy with h | h
    · exact .inl ⟨y, h, e⟩
    · exact .inr (List.mem_singleton.mp h ▸ e)
  · rintro (⟨y, hy, e⟩ | e)
    · exact ⟨y, List.mem_append_left _ hy, e⟩
    · exact ⟨x, List.mem_append_right _ (List.mem_singleton.mpr rfl), e⟩
theorem nodup_addr {gs : List ((Nat × Nat) × Addr)} (na : (gs.map (·.2)).Nodup) {g g' : (Nat × Nat) × Addr} (h : g ∈ gs) (h' : g' ∈ gs) (e : g.2 = g'.2) : g = g' := by
  induction gs with
  | nil => cases h
  | cons a l ih =>
    obtain ⟨n1, n2⟩ := List.nodup_cons.mp na
    rcases List.mem_cons.mp h with e1 | h <;> rcases List.mem_cons.mp h' with e2 | h'
    · exact e1.trans e2.symm
    · exact (n1 (List.mem_map.mpr ⟨g', h', by rw [← e1]; exact e.symm⟩)).elim
    · exact (n1 (List.mem_map.mpr ⟨g, h, by rw [← e2]; exact e⟩)).elim
    · exact ih n2 h h'
theorem nodup_key {gs : List ((Nat × Nat) × Addr)} (na : (gs.map (·.1)).Nodup) {g g' : (Nat × Nat) × Addr} (h : g ∈ gs) (h' : g' ∈ gs) (e : g.1 = g'.1) : g = g' := by
  induction gs with
  | nil => cases h
  | cons a l ih =>
    obtain ⟨n1, n2⟩ := List.nodup_cons.mp na
    rcases List.mem_cons.mp h with e1 | h <;> rcases List.mem_cons.mp h' with e2 | h'
    · exact e1.trans e2.symm
    · exact (n1 (List.mem_map.mpr ⟨g', h', by rw [← e1]; exact e.symm⟩)).elim
    · exact (n1 (List.mem_map.mpr ⟨g, h, by rw [← e2]; exact e⟩)).elim
    · exact ih n2 h h'
theorem Gs.on {ps : List P3} {gs : List ((Nat × Nat) × Addr)} {H1 H H' : Hp} (g : Gs ps gs H1 H) (h : ∀ x ∈ gs, ∀ o, H x.2 = some o → H' x.2 = some o) : Gs ps gs H1 H' := ⟨g.nd, g.na, g.mem, fun x hx => h x hx _ (g.at' x hx), g.new⟩
theorem Gs.more_in {ps : List P3} {gs : List ((Nat × Nat) × Addr)} {H1 H : Hp} {x : P3} {g : (Nat × Nat) × Addr} (G : Gs ps gs H1 H) (hg : g ∈ gs) (e : kap x = g.1) : Gs (ps ++ [x]) gs H1 (upd H g.2 (.lst (natV (hsOf ps g.1) ++ [.int (x.1 : Nat)]))) := by
  refine ⟨G.nd, G.na, fun k => ?_, fun y hy => ?_, G.new⟩
  · rw [G.mem k, mem_snoc]
    constructor
    · exact .inl
    · rintro (h | h)
      · exact h
      · exact (G.mem k).mp (List.mem_map.mpr ⟨g, hg, e.symm.trans h⟩)
  · rw [hsOf_snoc]
    by_cases c : y = g
    · subst c
      rw [upd_same, if_pos e, natV_snoc]
    · rw [upd_ne (fun z => c (nodup_addr G.na hy hg z)), if_neg fun z => c (nodup_key G.nd hy hg (z.symm.trans e)), List.append_nil]
      exact G.at' y hy
theorem hsOf_none {ps : List P3} {k : Nat × Nat} (h : ¬ ∃ x ∈ ps, kap x = k) : hsOf ps k = [] := Classical.byContradiction fun c => h (hsOf_ne.mp c)
theorem Gs.more_new {ps : List P3} {gs : List ((Nat × Nat) × Addr)} {H1 H : Hp} {x : P3} {d : Addr} (G : Gs ps gs H1 H) (hk : ¬ kap x ∈ gs.map (·.1)) (hd : H1 d = none) (hn : ¬ d ∈ gs.map (·.2)) : Gs (ps ++ [x]) (gs ++ [(kap x, d)]) H1 (upd H d (.lst [.int (x.1 : Nat)])) := by
  refine ⟨?_, ?_, fun k => ?_, fun y hy => ?_, fun y hy => ?_⟩
  · rw [List.map_append, List.nodup_append]
    refine ⟨G.nd, List.nodup_cons.mpr ⟨List.not_mem_nil, List.nodup_nil⟩, fun a ha b hb => ?_⟩
    rw [List.mem_singleton.mp hb]
    exact fun z => hk (by have z : a = kap x := z; rw [← z]; exact ha)
  · rw [List.map_append, List.nodup_append]
    refine ⟨G.na, List.nodup_cons.mpr ⟨List.not_mem_nil, List.nodup_nil⟩, fun a ha b hb => ?_⟩
    rw [List.mem_singleton.mp hb]
    exact fun z => hn (by have z : a = d := z; rw [← z]; exact ha)
  · rw [List.map_append, List.mem_append, G.mem k, mem_snoc]
    constructor
    · rintro (h | h)
      · exact .inl h
      · exact .inr (List.mem_singleton.mp h).symm
    · rintro (h | h)
      · exact .inl h
      · exact .inr (List.mem_singleton.mpr h.symm)
  · rw [hsOf_snoc]
    rcases List.mem_append.mp hy with hy | hy
    · have hyk : y.1 ∈ gs.map (·.1) := List.mem_map.mpr ⟨y, hy, rfl⟩
      rw [upd_ne (fun z => hn (List.mem_map.mpr ⟨y, hy, z⟩)), if_neg (fun z : kap x = y.1 => hk (by rw [z]; exact hyk)), List.append_nil]
      exact G.at' y hy
    · have e := List.mem_singleton.mp hy
      subst e
      rw [upd_same, if_pos rfl, hsOf_none (fun z => hk ((G.mem _).mpr z))]
      rfl
  · rcases List.mem_append.mp hy with hy | hy
    · exact G.new y hy
    · rw [List.mem_singleton.mp hy]
      exact hd
theorem rowOf_len (ps : List P3) (k : Nat × Nat) : (rowOf ps k).length = 4 := rfl
theorem rowsOf_len (ps : List P3) : ∀ l : List (Nat × Nat), (l.flatMap (rowOf ps)).length = 4 * l.length
  | [] => rfl
  | k :: l => by
    rw [List.flatMap_cons, List.length_append, rowsOf_len ps l, List.length_cons, rowOf_len]
    omega
section
variable {P : Program} {w : World} {K : PySem.W.Frag} {mg : Str → Option Value} {base : Heap}
def aClasses (st : State) : State × List Int := (st, classAns st.wide (Vapktb.tableAt st 0) (Vapktb.tableAt st 1))
theorem ok_Desk_classes (T : Txt K mg) : FnOk P w K mg base CX0 6 T.Desk_classes.f T.Desk_classes.fd ["self"] (spD0 T.cDesk T.cRef T.cNR aClasses) := by
  refine T.Desk_classes.fn.ok sc_Desk_classes (fun vs H Q E h => ?_) (fun cdv A outer s H vs Q E hr h => ⟨_, (pss_cons (ps_set (i := 1) sc_Desk_classes.nd rfl (Or.inl rfl) pe_dnewT)
      (pss_cons (ps_for PassesOwn.never rfl (pi_list (pe_meth0 (pv 0) T.kDesk T.Desk_pairs.me (ok_Desk_pairs T) (hr.mono (by decide)) T.Desk_pairs.bd .nil pass0)) (pg_tup rfl (pgs_cons (pg_name (i := 2) sc_Desk_classes.nd rfl (Or.inl rfl)) (pgs_cons (pg_name (i := 3) sc_Desk_classes.nd rfl (Or.inl rfl)) (pgs_cons (pg_name (i := 4) sc_Desk_classes.nd rfl (Or.inl rfl)) pgs_nil)))) (pss_one (ps_expr (pe_bm PySem.F.plainAttrs_list PySem.F.slot_list_append PySem.F.type_list_append mt_append (pe_bm PySem.F.plainAttrs_dict PySem.F.slot_dict_setdefault PySem.F.type_dict_setdefault (mt_setdefT (hu_of hr)) (pv 1) (pa_cons (pe_tup (pa_cons (pe_call (ok_sort_of T) (hr.mono (by decide)) rfl T.sort_of.gl T.sort_of.kp T.sort_of.bd .nil pass0 (pa_cons (pv 3) pa_nil)) (pa_cons (pe_call (ok_sort_of T) (hr.mono (by decide)) rfl T.sort_of.gl T.sort_of.kp T.sort_of.bd .nil pass0 (pa_cons (pv 4) pa_nil)) pa_nil))) (pa_cons (pe_lst pa_nil) pa_nil))) (pa_cons (pv 2) pa_nil)))))
      (pss_cons (ps_set (i := 5) sc_Desk_classes.nd rfl (Or.inl rfl) (pe_lst (pa_cons (pe_callB call_len_dT (by rfl) T.zlen PySem.boot_len (pa_cons (pv 1) pa_nil)) pa_nil)))
      (pss_cons (ps_for PassesOwn.never rfl (pi_list (pe_callB (cr_sortedDT rfl) (by rfl) T.zsorted (by decide +kernel) (pa_cons (pv 1) pa_nil))) (pg_name (i := 6) sc_Desk_classes.nd rfl (Or.inl rfl)) (pss_one (ps_expr (pe_bm PySem.F.plainAttrs_list PySem.F.slot_list_extend PySem.F.type_list_extend mt_extend (pv 5) (pa_cons (pe_lst (pa_cons (pe_ix ix_tup (pv 6) pe_int (fun _ _ => rfl)) (pa_cons (pe_ix ix_tup (pv 6) pe_int (fun _ _ => rfl)) (pa_cons (pe_callB call_len_seq (by rfl) T.zlen PySem.boot_len (pa_cons (pe_dget (hu_of hr) (pv 1) (pv 6) (fun _ _ => rfl)) pa_nil)) (pa_cons (pe_ix ix_list (pe_dget (hu_of hr) (pv 1) (pv 6) (fun _ _ => rfl)) pe_int (fun _ _ => rfl)) pa_nil))))) pa_nil)))))
      (pss_one (ps_ret (pv 5))))))), ?_⟩)
  · obtain ⟨D, Tt, st, E1, rfl, _⟩ := h
    rfl
  · obtain ⟨D, Tt, st, E1, rfl, d, k⟩ := h
    obtain ⟨dx, xs, a, hD, hT, hat, hix, ht, wf, hn1, hn7⟩ := d.view (i := 0) (by decide)
    obtain ⟨_, _, _, _, _, _, _, _, wf', _, _⟩ := d.view (i := 1) (by decide)
    unfold aClasses at k
    have pl := pow_le hn7
    intro G nG
    have sG := snew (o := .dT []) nG
    refine ⟨_, rfl, D, _, _, rfl, sG _ _ hD, dk_no, D, Tt, st, rfl, d.same sG, fun H1 q _ s1 hq => ?_⟩
    have hlen : (pairsL st.wide (Vapktb.tableAt st 0) (Vapktb.tableAt st 1)).length ≤ 2 ^ st.wide := by
      unfold pairsL otherH
      rw [List.length_map]
      exact hds_len _ _
    have CA := fun ks nd hm qs hp hs => class_ans wf wf' (ks := ks) nd hm (qs := qs) hp hs
    generalize pairsL st.wide (Vapktb.tableAt st 0) (Vapktb.tableAt st 1) = ps at hq hlen CA
    generalize classAns st.wide (Vapktb.tableAt st 0) (Vapktb.tableAt st 1) = ca at k CA
    obtain ⟨qs, hq1, hq2⟩ := hq
    have hG1 : H1 G = some (.dT []) := s1 _ _ upd_same
    refine ⟨q, rfl, ⟨_, SqL.of hq1⟩, ?_⟩
    refine for_list (K := K) (a := q) (xs := qs.map V.ref) (fun j σ H' => ∃ (v2 v3 v4 v5 v6 : Option V) (gs : List ((Nat × Nat) × Addr)), σ = [some (.ref D), some (.ref G), v2, v3, v4, v5, v6] ∧ Same H H' ∧ H' q = some (.lst (qs.map V.ref)) ∧ TupStay H1 H' ∧ H' G = some (.dT (gs.map gsK)) ∧ Gs (ps.take j) gs H1 H' ∧ gs.length ≤ j ∧ ∀ b, H' b = none → H1 b = none)
      ⟨none, none, none, none, none, [], rfl, sG.trans s1, hq1, fun _ _ e => e, hG1, ⟨List.nodup_nil, List.nodup_nil, fun k => ⟨fun z => absurd z List.not_mem_nil, fun ⟨x, hx, _⟩ => absurd hx List.not_mem_nil⟩, fun g z => absurd z List.not_mem_nil, fun g z => absurd z List.not_mem_nil⟩, Nat.le_refl _, fun _ z => z⟩ (fun j σ H' _ z => let ⟨_, _, _, _, _, _, _, _, z, _⟩ := z; SqL.of z) ?_ ?_
    · rintro j x σ H' hx ⟨v2, v3, v4, v5, v6, gs, rfl, sH, hq', ts, hG, gg, hgl, fr⟩
      obtain ⟨ra, hra, rfl⟩ := refs_of_at hx
      obtain ⟨y, hy, b, c, hY, hB, hC⟩ := Paired.at' hq2 hra
      have hY' := ts _ _ hY
      have hB' : OutAt H' b y.2.1 := ts _ _ hB
      have hC' : OutAt H' c y.2.2 := ts _ _ hC
      have hj : j < ps.length := (List.getElem?_eq_some_iff.mp hy).1
      refine ⟨ra, _, rfl, SqT.of hY', rfl, _, _, rfl, _, _, rfl, _, _, rfl, rfl, ?_⟩
      refine ⟨_, rfl, .inr (.inr (.inl ⟨rfl, .inr ⟨_, hG⟩⟩)), _, rfl, b, y.2.1, rfl, hB', _, rfl, c, y.2.2, rfl, hC', (by show 2 ≤ sizeLine; decide), fun e ne => ⟨(by show 0 ≤ sizeLine; decide), fun f nf => ?_⟩⟩
      have se := snew (o := .tup [.int (Vapktb.sortOf y.2.1 : Nat), .int (Vapktb.sortOf y.2.2 : Nat)]) ne
      have sf := snew (o := .lst []) nf
      have sef := se.trans sf
      have he := sf _ _ (upd_same (H := H') (a := e) (o := .tup [.int (Vapktb.sortOf y.2.1 : Nat), .int (Vapktb.sortOf y.2.2 : Nat)]))
      have hf : upd (upd H' e (.tup [.int (Vapktb.sortOf y.2.1 : Nat), .int (Vapktb.sortOf y.2.2 : Nat)])) f (.lst []) f = some (.lst []) := upd_same
      have f1' : H' f = none := se.free nf
      generalize upd (upd H' e (.tup [.int (Vapktb.sortOf y.2.1 : Nat), .int (Vapktb.sortOf y.2.2 : Nat)])) f (.lst []) = H2 at sef he hf
      have gg2 : Gs (ps.take j) gs H1 H2 := gg.on fun x _ o z => sef _ _ z
      have hG2 := sef _ _ hG
      have hq2' := sef _ _ hq'
      have ts2 := ts.trans (stay_same sef)
      have sH2 := sH.trans sef
      have kne : ∀ z : Addr, H1 z = none → z ≠ q ∧ z ≠ G := fun z hz => ⟨(fun e => by rw [e, hq1] at hz; cases hz), (fun e => by rw [e, hG1] at hz; cases hz)⟩
      have hfree : ∀ z : Addr, H1 z = none → H z = none := fun z hz => (sG.trans s1).free hz
      refine ⟨G, gs.map gsK, [.inl ((kap y).1 : Int), .inl ((kap y).2 : Int)], e, .ref f, rfl, rfl, hG2, he, size1000 (by rw [List.length_map]; omega), fun v hv => ?_, fun hv => ?_⟩
      · have hin : kap y ∈ gs.map (·.1) := Classical.byContradiction fun z => by rw [gs_none z] at hv; cases hv
        obtain ⟨g, hg, eg⟩ := List.mem_map.mp hin
        have eV := gs_val gg.nd hg
        have eV' : valV (gs.map gsK) [.inl ((kap y).1 : Int), .inl ((kap y).2 : Int)] = some (.ref g.2) := by rw [← eg]; exact eV
        rw [eV'] at hv
        cases hv
        have hl := gg2.at' g hg
        have ng := gg.new g hg
        obtain ⟨n1, n2⟩ := kne _ ng
        refine ⟨.inl ⟨rfl, _, SqL.of hl⟩, _, rfl, g.2, _, _, rfl, rfl, hl, size1000 ?_, _, _, _, _, _, gs, rfl, ?_, ?_, ?_, ?_, ?_, by omega, fun z hz => ?_⟩
        · rw [natV_len]
          have := hsOf_len (ps.take j) g.1
          rw [List.length_take] at this
          omega
        · intro z o hz
          rw [upd_ne (ne_of_none hz (hfree _ ng))]
          exact sH2 _ _ hz
        · rw [upd_ne (Ne.symm n1)]
          exact hq2'
        · exact ts2.trans (stay_lst hl)
        · rw [upd_ne (Ne.symm n2)]
          exact hG2
        · rw [take_one hy]
          exact gg2.more_in hg eg.symm
        · by_cases c : z = g.2
          · rw [c]; exact ng
          · rw [upd_ne c] at hz
            exact fr _ (sef.free hz)
      · have hnin : ¬ kap y ∈ gs.map (·.1) := fun z => by
          obtain ⟨g, hg, eg⟩ := List.mem_map.mp z
          have eV := gs_val gg.nd hg
          have eV' : valV (gs.map gsK) [.inl ((kap y).1 : Int), .inl ((kap y).2 : Int)] = some (.ref g.2) := by rw [← eg]; exact eV
          rw [eV'] at hv
          cases hv
        have h1f : H1 f = none := fr _ f1'
        obtain ⟨n1, n2⟩ := kne _ h1f
        have hnf : ¬ f ∈ gs.map (·.2) := fun z => by
          obtain ⟨g, hg, eg⟩ := List.mem_map.mp z
          have := gg.at' g hg
          rw [eg, f1'] at this
          cases this
        rw [putK_new _ hv]
        have hGs : gs.map gsK ++ [([.inl ((kap y).1 : Int), .inl ((kap y).2 : Int)], V.ref f)] = (gs ++ [(kap y, f)]).map gsK := by rw [List.map_append]; rfl
        rw [hGs]
        have hf3 : upd H2 G (.dT ((gs ++ [(kap y, f)]).map gsK)) f = some (.lst []) := by rw [upd_ne n2]; exact hf
        refine ⟨.inl ⟨rfl, _, SqL.of hf3⟩, _, rfl, f, _, _, rfl, rfl, hf3, (by show 0 < sizeLine; decide), _, _, _, _, _, gs ++ [(kap y, f)], rfl, ?_, ?_, ?_, ?_, ?_, ?_, fun z hz => ?_⟩
        · intro z o hz
          rw [upd_ne (ne_of_none hz (hfree _ h1f)), upd_ne (ne_of_none hz nG)]
          exact sH2 _ _ hz
        · rw [upd_ne (Ne.symm n1), upd_ne (fun z => by rw [← z, hq1] at hG1; cases hG1)]
          exact hq2'
        · refine (ts2.trans ?_).trans (stay_lst hf3)
          intro z zs hz
          rw [upd_ne (fun e => by rw [e, hG2] at hz; cases hz)]
          exact hz
        · rw [upd_ne (Ne.symm n2), upd_same]
        · rw [take_one hy]
          exact (gg2.on fun x hx o z => by
            rw [upd_ne (kne _ (gg.new x hx)).2]
            exact z).more_new hnin h1f hnf
        · rw [List.length_append]
          show gs.length + 1 ≤ _
          omega
        · by_cases c : z = f
          · rw [c]; exact h1f
          · rw [upd_ne c] at hz
            by_cases c2 : z = G
            · rw [c2, upd_same] at hz; cases hz
            · rw [upd_ne c2] at hz
              exact fr _ (sef.free hz)
    · rintro σ H' ⟨v2, v3, v4, v5, v6, gs, rfl, sH, hq', ts, hG, gg, hgl, fr⟩
      rw [List.length_map, Paired.len hq2] at hgl
      rw [List.length_map, Paired.len hq2, List.take_length] at gg
      refine ⟨_, rfl, G, _, rfl, hG, (by show 1 ≤ sizeLine; decide), fun R nR => ?_⟩
      rw [List.length_map]
      have sR := snew (o := .lst [.int (gs.length : Nat)]) nR
      refine ⟨_, rfl, G, gs.map gsK, (gs.map (·.1)).map toI, rfl, sR _ _ hG, by rw [List.map_map, List.map_map, List.map_map]; rfl, fun ks as pp hperm hsort hat2 npp => ?_⟩
      obtain ⟨kk, rfl, hkk, hlk, hca⟩ := CA _ gg.nd gg.mem ks hperm hsort
      rw [List.length_map] at hlk hca
      have spp := snew (o := .lst (as.map V.ref)) npp
      have ppR : pp ≠ R := fun e => by rw [e, upd_same] at npp; cases npp
      have nR' : ∀ z o, H' z = some o → z ≠ R := fun z o hz => ne_of_none hz nR
      have las := Paired.len hat2
      rw [List.length_map] at las
      have sRp := sR.trans spp
      have pairs' : Paired (fun (a : Addr) (q : Int × Int) => H' a = some (.tup [.int q.1, .int q.2])) as (kk.map toI) := Paired.mapP hat2 fun a q z => by
        have ne : a ≠ R := fun e => by rw [e, upd_same] at z; cases z
        rw [upd_ne ne] at z
        exact z
      refine ⟨pp, rfl, ⟨_, SqL.of upd_same⟩, ?_⟩
      refine for_list (K := K) (a := pp) (xs := as.map V.ref) (fun j σ H'' => (∃ v6 : Option V, σ = [some (.ref D), some (.ref G), v2, v3, v4, some (.ref R), v6]) ∧ Same H' H'' ∧ H'' pp = some (.lst (as.map V.ref)) ∧ H'' R = some (.lst (((gs.length : Int) :: (kk.take j).flatMap (rowOf ps)).map V.int)))
        ⟨⟨_, rfl⟩, sRp, upd_same, spp _ _ upd_same⟩ (fun j σ H'' _ z => SqL.of z.2.2.1) ?_ ?_
      · rintro j x σ H'' hx ⟨⟨v6, rfl⟩, s, hpp, hR⟩
        obtain ⟨e, hre, rfl⟩ := refs_of_at hx
        obtain ⟨q', hq'', hE⟩ := Paired.at' pairs' hre
        rw [List.getElem?_map] at hq''
        obtain ⟨k0, hk0, rfl⟩ := Option.map_eq_some_iff.mp hq''
        have hj : j < kk.length := (List.getElem?_eq_some_iff.mp hk0).1
        have hE' := s _ _ hE
        have hG'' := s _ _ hG
        obtain ⟨g, hg, rfl⟩ := List.mem_map.mp (hkk k0 (List.mem_of_getElem? hk0))
        have hl := s _ _ (gg.at' g hg)
        have eV := gs_val gg.nd hg
        have hne : hsOf ps g.1 ≠ [] := hsOf_ne.mpr ((gg.mem g.1).mp (List.mem_map.mpr ⟨g, hg, rfl⟩))
        have hrow : rowOf ps g.1 = [((g.1.1 : Nat) : Int), ((g.1.2 : Nat) : Int), (((hsOf ps g.1).length : Nat) : Int), (((hsOf ps g.1).headD 0 : Nat) : Int)] := rfl
        generalize hsOf ps g.1 = L at hl hne hrow
        cases L with
        | nil => exact absurd rfl hne
        | cons h0 L =>
          have dg : DGet H'' G (.ref e) (some (.ref g.2)) := .inr ⟨_, (gsK g).1, e, .inl hG'', rfl, hE', eV.symm⟩
          refine ⟨_, rfl, .inl ⟨rfl, _, SqL.of hR⟩, _, rfl, e, _, _, _, rfl, rfl, SqT.of hE', atI_nat (j := 0) rfl, _, rfl, e, _, _, _, rfl, rfl, SqT.of hE', atI_nat (j := 1) rfl, _, rfl, _, rfl, G, _, rfl, dg, g.2, _, rfl, .inl (SqL.of hl), _, rfl, _, rfl, G, _, rfl, dg, g.2, _, _, _, rfl, rfl, SqL.of hl, atI_nat (j := 0) rfl, (by show 4 ≤ sizeLine; decide), fun f nf => ?_⟩
          have sf := snew (o := .lst [.int (g.1.1 : Nat), .int (g.1.2 : Nat), .int ((natV (h0 :: L)).length : Nat), .int (h0 : Nat)]) nf
          refine ⟨R, f, _, _, rfl, rfl, sf _ _ hR, upd_same, size1000' ?_, ⟨_, rfl⟩, ?_, ?_, ?_⟩
          · rw [List.length_map, List.length_cons, rowsOf_len, List.length_take]
            show _ + 4 ≤ _
            omega
          · intro z o hz
            rw [upd_ne (nR' z o hz)]
            exact sf _ _ (s _ _ hz)
          · rw [upd_ne ppR]
            exact sf _ _ hpp
          · rw [upd_same, take_one hk0, List.flatMap_append, List.flatMap_singleton, hrow, natV_len]
            rw [← List.cons_append, List.map_append]
            rfl
      · rintro σ H'' ⟨⟨v6, rfl⟩, s, hpp, hR⟩
        rw [List.length_map, las, List.take_length, ← hca] at hR
        exact ⟨_, rfl, k.same d (sH.free nR) (sH.trans s) hR⟩
end
end Rt

/-! looked_told, table_told, call_told (printed by gen_p.py) -/
namespace Rt
open PySem PySem.Spec PyProof.Rows L2
open VapktBase (Rule Action Table Rewrite)
open Vapktb (State)
section
variable {P : Program} {w : World} {K : PySem.W.Frag} {mg : Str → Option Value} {base : Heap}
theorem ne_dec {c k : Nat} (h : ¬ c = k) : decide (V.int (c : Nat) = V.int (k : Nat)) = false := decide_eq_false fun z => h (by have := V.int.inj z; omega)
theorem num_at {ns : List Int} {j : Nat} (h : j < ns.length) : atI (ns.map V.int) (j : Int) = some (.int (ns.getD j 0)) := by
  refine atI_nat ?_
  rw [List.getElem?_map, List.getElem?_eq_getElem h, List.getD_eq_getElem?_getD, List.getElem?_eq_getElem h]
  rfl
def aTabI (st : State) (c i : Nat) (z2 : Int) (rs : List Int) : State × List Int := match c with
  | 1 => aTable st i rs
  | 2 => aPut st i z2 rs
  | 3 => aTake st i z2
  | 4 => (st, VapktBase.flatTable (Vapktb.tableAt st i))
  | 5 => aDoes st i z2
  | 6 => aOwn st i z2
  | 7 => (st, Vapktb.setTold st.wide (Vapktb.holeSet st.wide (Vapktb.tableAt st i)))
  | 8 => aTo st i z2
  | 9 => aOut st i z2
  | 10 => aFrom st i z2 rs
  | 11 => aIdle st i
  | 12 => (st, Vapktb.listed (Vapktb.spare st.wide (Vapktb.tableAt st i)))
  | 13 => aTurn st i z2
  | 14 => aSmall st i
  | 15 => aApart st i
  | 16 => aWhy st i z2
  | _ => (st, Vapktb.int (Vapktb.tableAt st i).length :: ((List.range (Vapktb.tableAt st i).length).map fun j => Vapktb.int (VapktBase.size st.wide (Vapktb.ownSet st.wide (Vapktb.tableAt st i) j))) ++ [Vapktb.int (VapktBase.size st.wide (Vapktb.holeSet st.wide (Vapktb.tableAt st i)))])
theorem aTabI_no {st : State} {c i : Nat} {z2 : Int} {rs : List Int} (h : 11 ≤ c) : aTabI st c i z2 rs = aTabI st c i z2 [] := by
  unfold aTabI
  split <;> first | rfl | omega
def aTab (st : State) (c : Nat) (z z2 : Int) (rs : List Int) : State × List Int := match Vapktb.belowN z 2 with
  | none => (st, [-2])
  | some i => aTabI st c i z2 rs
def aCall (st : State) (c : Nat) (ns rs : List Int) : State × List Int := match c with
  | 0 => aWide st (ns.getD 0 0)
  | 18 => aOther st
  | 19 => aClasses st
  | _ => aTab st c (ns.getD 0 0) (ns.getD 1 0) rs
theorem aCall_mid {st : State} {c : Nat} {ns rs : List Int} (h : 1 ≤ c) (h' : c ≤ 17) : aCall st c ns rs = aTab st c (ns.getD 0 0) (ns.getD 1 0) rs := by
  unfold aCall
  split <;> first | rfl | omega

/-- does the call have two numbers? -/
def two (c : Nat) : Bool := c == 2 || c == 3 || c == 5 || c == 6 || c == 8 || c == 9 || c == 10 || c == 13 || c == 16

def spLooked (K : PySem.W.Frag) (C CR CN : Addr) : Sp := fun vs H Q E => ∃ (D Tt na : Addr) (st : State) (c i : Nat) (ns : List Int), vs = [.ref D, .int (c : Nat), .int (i : Nat), .ref na] ∧ DeskAt C H D Tt st ∧ i < 2 ∧ SqL K H na (ns.map V.int) ∧ 11 ≤ c ∧ c ≤ 17 ∧ (two c = true → 1 < ns.length) ∧
  Told C CR CN H D Tt Q E (aTabI st c i (ns.getD 1 0) [])
theorem ok_looked_told (T : Txt K mg) : FnOk P w K mg base (L2.CX P w) 10 T.looked_told.f T.looked_told.fd ["desk", "call", "which", "numbers"] (spLooked K T.cDesk T.cRef T.cNR) := by
  refine T.looked_told.fn.okX sc_looked_told (fun vs H Q E h => ?_) (fun cdv A outer s H vs Q E hr h => ⟨_, (pss_cons (ps_if (pt_cmpR op_eq (pv 1) (pgi rfl T.cIDLE) (nomark _)) (pss_one (ps_ret (pe_meth (pv 0) T.kDesk T.Desk_idle.me (ok_Desk_idle T) (hr.mono (by decide)) T.Desk_idle.bd .nil pass0 (pa_cons (pv 2) pa_nil)))) pss_nil)
      (pss_cons (ps_if (pt_cmpR op_eq (pv 1) (pgi rfl T.cSPARE) (nomark _)) (pss_one (ps_ret (pe_call (ok_counted T) (hr.mono (by decide)) rfl T.counted.gl T.counted.kp T.counted.bd .nil pass0 (pa_cons (pe_call (ok_spare_rules T) (hr.mono (by decide)) rfl T.spare_rules.gl T.spare_rules.kp T.spare_rules.bd .nil pass0 (pa_cons (pe_ix ix_list (pe_fld (pv 0) rfl) (pv 2) (fun _ _ => rfl)) (pa_cons (pe_fld (pv 0) rfl) pa_nil))) pa_nil)))) pss_nil)
      (pss_cons (ps_if (pt_cmpR op_eq (pv 1) (pgi rfl T.cTURN) (nomark _)) (pss_one (ps_ret (pe_meth (pv 0) T.kDesk T.Desk_turn.me (ok_Desk_turn T) (hr.mono (by decide)) T.Desk_turn.bd .nil (passes_call (takes_of rfl rfl rfl rfl) (fun _ _ _ _ h => h)) (pa_cons (pv 2) (pa_cons (pe_ix ix_list (pv 3) pe_int (fun _ _ => rfl)) pa_nil))))) pss_nil)
      (pss_cons (ps_if (pt_cmpR op_eq (pv 1) (pgi rfl T.cSMALL) (nomark _)) (pss_one (ps_ret (pe_meth (pv 0) T.kDesk T.Desk_small.me (ok_Desk_small T) (hr.mono (by decide)) T.Desk_small.bd .nil pass0 (pa_cons (pv 2) pa_nil)))) pss_nil)
      (pss_cons (ps_if (pt_cmpR op_eq (pv 1) (pgi rfl T.cAPART) (nomark _)) (pss_one (ps_ret (pe_meth (pv 0) T.kDesk T.Desk_apart.me (ok_Desk_apart T) (hr.mono (by decide)) T.Desk_apart.bd .nil pass0 (pa_cons (pv 2) pa_nil)))) pss_nil)
      (pss_cons (ps_if (pt_cmpR op_eq (pv 1) (pgi rfl T.cWHY) (nomark _)) (pss_one (ps_ret (pe_meth (pv 0) T.kDesk T.Desk_why_told.me (ok_Desk_why_told T) (hr.mono (by decide)) T.Desk_why_told.bd .nil (passes_call (takes_of rfl rfl rfl rfl) (fun _ _ _ _ h => h)) (pa_cons (pv 2) (pa_cons (pe_ix ix_list (pv 3) pe_int (fun _ _ => rfl)) pa_nil))))) pss_nil)
      (pss_one (ps_ret (pe_op op_cat (pe_lst (pa_cons (pe_callB call_len_seq (by rfl) T.zlen PySem.boot_len (pa_cons (pe_ix ix_list (pe_fld (pv 0) rfl) (pv 2) (fun _ _ => rfl)) pa_nil)) pa_nil)) (pe_meth (pv 0) T.kDesk T.Desk_many_counted.me (ok_Desk_many_counted T) (hr.mono (by decide)) T.Desk_many_counted.bd .nil pass0 (pa_cons (pv 2) pa_nil))))))))))), ?_⟩)
  · obtain ⟨D, Tt, na, st, c, i, ns, rfl, _⟩ := h
    rfl
  · obtain ⟨D, Tt, na, st, c, i, ns, rfl, d, hi, hS, hc1, hc2, h2, k⟩ := h
    obtain ⟨dx, xs, a, hD, hT, hat, hix, ht, wf, hn1, hn7⟩ := d.view hi
    refine ⟨_, rfl, rfl, _, rfl, ?_⟩
    by_cases e11 : c = 11
    · subst e11
      exact ifT rfl ⟨_, rfl, D, _, _, rfl, hD, dk_no, _, rfl, D, Tt, st, i, E, rfl, d, hi, k⟩
    refine ifF (ne_dec e11) ?_
    refine ⟨_, rfl, rfl, _, rfl, ?_⟩
    by_cases e12 : c = 12
    · subst e12
      have k : Told T.cDesk T.cRef T.cNR H D Tt Q E (st, Vapktb.listed (Vapktb.spare st.wide (Vapktb.tableAt st i))) := k
      rw [listed_eq] at k
      refine ifT rfl ⟨_, rfl, _, _, _, _, _, rfl, hD, T.kDesk, T.nDesk_tables, dk_tables, _, rfl, _, _, _, _, rfl, rfl, SqL.of (hT), hat, _, rfl, _, _, _, _, _, rfl, hD, T.kDesk, T.nDesk_bits, dk_bits, a, Vapktb.tableAt st i, st.wide, rfl, ht, wf.1, hn7, fun H1 p s1 hp => ?_⟩
      refine ⟨p, natI (Vapktb.spare st.wide (Vapktb.tableAt st i)), rfl, SqL.of hp, ?_, fun H2 q f2 s2 hq => k.same d (s1.free f2) (s1.trans s2) hq⟩
      have := List.length_filter_le (fun j => Vapktb.sameTables st.wide (Vapktb.tableAt st i) ((Vapktb.tableAt st i).eraseIdx j)) (List.range (Vapktb.tableAt st i).length)
      rw [List.length_range] at this
      have w8 := wf.1
      unfold natI
      rw [List.length_map]
      exact Nat.le_trans this (by omega)
    refine ifF (ne_dec e12) ?_
    refine ⟨_, rfl, rfl, _, rfl, ?_⟩
    by_cases e13 : c = 13
    · subst e13
      exact ifT rfl ⟨_, rfl, D, _, _, rfl, hD, dk_no, _, rfl, _, rfl, na, _, _, _, rfl, rfl, hS, num_at (h2 rfl), D, Tt, st, i, _, rfl, d, hi, k⟩
    refine ifF (ne_dec e13) ?_
    refine ⟨_, rfl, rfl, _, rfl, ?_⟩
    by_cases e14 : c = 14
    · subst e14
      exact ifT rfl ⟨_, rfl, D, _, _, rfl, hD, dk_no, _, rfl, D, Tt, st, i, E, rfl, d, hi, k⟩
    refine ifF (ne_dec e14) ?_
    refine ⟨_, rfl, rfl, _, rfl, ?_⟩
    by_cases e15 : c = 15
    · subst e15
      exact ifT rfl ⟨_, rfl, D, _, _, rfl, hD, dk_no, _, rfl, D, Tt, st, i, E, rfl, d, hi, k⟩
    refine ifF (ne_dec e15) ?_
    refine ⟨_, rfl, rfl, _, rfl, ?_⟩
    by_cases e16 : c = 16
    · subst e16
      exact ifT rfl ⟨_, rfl, D, _, _, rfl, hD, dk_no, _, rfl, _, rfl, na, _, _, _, rfl, rfl, hS, num_at (h2 rfl), D, Tt, st, i, _, rfl, d, hi, k⟩
    refine ifF (ne_dec e16) ?_
    have e17 : c = 17 := by omega
    subst e17
    have k : Told T.cDesk T.cRef T.cNR H D Tt Q E (st, Vapktb.int (Vapktb.tableAt st i).length :: ((List.range (Vapktb.tableAt st i).length).map fun j => Vapktb.int (VapktBase.size st.wide (Vapktb.ownSet st.wide (Vapktb.tableAt st i) j))) ++ [Vapktb.int (VapktBase.size st.wide (Vapktb.holeSet st.wide (Vapktb.tableAt st i)))]) := k
    rw [List.cons_append, ← manyOf_counts] at k
    have w8 := wf.1
    have ht' := ht
    obtain ⟨as, ha, hp⟩ := ht
    refine ⟨_, rfl, _, _, _, _, _, rfl, hD, T.kDesk, T.nDesk_tables, dk_tables, _, rfl, _, _, _, _, rfl, rfl, SqL.of (hT), hat, a, _, rfl, .inl (SqL.of ha), (by show 1 ≤ sizeLine; decide), fun p np => ?_⟩
    rw [List.length_map, Paired.len hp]
    have s1 := snew (o := .lst [.int ((Vapktb.tableAt st i).length : Nat)]) np
    refine ⟨_, rfl, D, _, _, rfl, s1 _ _ hD, dk_no, _, rfl, D, Tt, st, i, rfl, d.same s1, hi, fun H2 q s2 hq => ?_⟩
    refine ⟨p, q, _, _, rfl, rfl, s2 _ _ upd_same, hq, size1000' (by rw [natV_len, manyOf_len]; show 1 + _ ≤ _; omega), fun u nu => k.same d ((s1.trans s2).free nu) ((s1.trans s2).trans (snew nu)) (IntsAt.new rfl)⟩
def spTable (K : PySem.W.Frag) (C CR CN : Addr) : Sp := fun vs H Q E => ∃ (D Tt na ra : Addr) (st : State) (c : Nat) (ns rs : List Int), vs = [.ref D, .int (c : Nat), .ref na, .ref ra] ∧ DeskAt C H D Tt st ∧ SqL K H na (ns.map V.int) ∧ SqL K H ra (rs.map V.int) ∧ 1 ≤ c ∧ c ≤ 17 ∧ 0 < ns.length ∧ (two c = true → 1 < ns.length) ∧
  Told C CR CN H D Tt Q E (aTab st c (ns.getD 0 0) (ns.getD 1 0) rs)
theorem ok_table_told (T : Txt K mg) : FnOk P w K mg base (L2.CX P w) 11 T.table_told.f T.table_told.fd ["desk", "call", "numbers", "row"] (spTable K T.cDesk T.cRef T.cNR) := by
  refine T.table_told.fn.okX sc_table_told (fun vs H Q E h => ?_) (fun cdv A outer s H vs Q E hr h => ⟨_, (pss_cons (ps_set (i := 4) sc_table_told.nd rfl (Or.inl rfl) (pe_ix ix_list (pv 2) pe_int (fun _ _ => rfl)))
      (pss_cons (ps_expr (pe_call (ok_refuse_if T) (hr.mono (by decide)) rfl T.refuse_if.gl T.refuse_if.kp T.refuse_if.bd .nil (passes_call (takes_of rfl rfl rfl rfl) (fun _ _ _ _ h => h)) (pa_cons (pe_not (pe_chain op_le op_le pe_int (pv 4) pe_int)) (pa_cons (pe_un un_neg pe_int) pa_nil))))
      (pss_cons (ps_if (pt_cmpR op_eq (pv 1) (pgi rfl T.cTABLE) (nomark _)) (pss_one (ps_ret (pe_meth (pv 0) T.kDesk T.Desk_put_table.me (ok_Desk_put_table T) (hr.mono (by decide)) T.Desk_put_table.bd .nil (passes_call (takes_of rfl rfl rfl rfl) (fun _ _ _ _ h => h)) (pa_cons (pv 4) (pa_cons (pv 3) pa_nil))))) pss_nil)
      (pss_cons (ps_if (pt_cmpR op_eq (pv 1) (pgi rfl T.cPUT) (nomark _)) (pss_one (ps_ret (pe_meth (pv 0) T.kDesk T.Desk_put_rule.me (ok_Desk_put_rule T) (hr.mono (by decide)) T.Desk_put_rule.bd .nil (passes_call (takes_of rfl rfl rfl rfl) (fun _ _ _ _ h => h)) (pa_cons (pv 4) (pa_cons (pe_ix ix_list (pv 2) pe_int (fun _ _ => rfl)) (pa_cons (pv 3) pa_nil)))))) pss_nil)
      (pss_cons (ps_if (pt_cmpR op_eq (pv 1) (pgi rfl T.cTAKE) (nomark _)) (pss_one (ps_ret (pe_meth (pv 0) T.kDesk T.Desk_take_rule.me (ok_Desk_take_rule T) (hr.mono (by decide)) T.Desk_take_rule.bd .nil (passes_call (takes_of rfl rfl rfl rfl) (fun _ _ _ _ h => h)) (pa_cons (pv 4) (pa_cons (pe_ix ix_list (pv 2) pe_int (fun _ _ => rfl)) pa_nil))))) pss_nil)
      (pss_cons (ps_if (pt_cmpR op_eq (pv 1) (pgi rfl T.cSHOWN) (nomark _)) (pss_one (ps_ret (pe_call (ok_table_numbers T) (hr.mono (by decide)) rfl T.table_numbers.gl T.table_numbers.kp T.table_numbers.bd .nil pass0 (pa_cons (pe_ix ix_list (pe_fld (pv 0) rfl) (pv 4) (fun _ _ => rfl)) pa_nil)))) pss_nil)
      (pss_cons (ps_if (pt_cmpR op_eq (pv 1) (pgi rfl T.cDOES) (nomark _)) (pss_one (ps_ret (pe_meth (pv 0) T.kDesk T.Desk_does.me (ok_Desk_does T) (hr.mono (by decide)) T.Desk_does.bd .nil (passes_call (takes_of rfl rfl rfl rfl) (fun _ _ _ _ h => h)) (pa_cons (pv 4) (pa_cons (pe_ix ix_list (pv 2) pe_int (fun _ _ => rfl)) pa_nil))))) pss_nil)
      (pss_cons (ps_if (pt_cmpR op_eq (pv 1) (pgi rfl T.cOWN) (nomark _)) (pss_one (ps_ret (pe_meth (pv 0) T.kDesk T.Desk_own.me (ok_Desk_own T) (hr.mono (by decide)) T.Desk_own.bd .nil (passes_call (takes_of rfl rfl rfl rfl) (fun _ _ _ _ h => h)) (pa_cons (pv 4) (pa_cons (pe_ix ix_list (pv 2) pe_int (fun _ _ => rfl)) pa_nil))))) pss_nil)
      (pss_cons (ps_if (pt_cmpR op_eq (pv 1) (pgi rfl T.cHOLES) (nomark _)) (pss_one (ps_ret (pe_call (ok_set_numbers T) (hr.mono (by decide)) rfl T.set_numbers.gl T.set_numbers.kp T.set_numbers.bd .nil pass0 (pa_cons (pe_call (ok_own_headers T) (hr.mono (by decide)) rfl T.own_headers.gl T.own_headers.kp T.own_headers.bd .nil pass0 (pa_cons (pe_ix ix_list (pe_fld (pv 0) rfl) (pv 4) (fun _ _ => rfl)) (pa_cons (pe_callB call_len_seq (by rfl) T.zlen PySem.boot_len (pa_cons (pe_ix ix_list (pe_fld (pv 0) rfl) (pv 4) (fun _ _ => rfl)) pa_nil)) (pa_cons (pe_fld (pv 0) rfl) pa_nil)))) (pa_cons (pe_fld (pv 0) rfl) pa_nil))))) pss_nil)
      (pss_cons (ps_if (pt_cmpR op_eq (pv 1) (pgi rfl T.cTO) (nomark _)) (pss_one (ps_ret (pe_meth (pv 0) T.kDesk T.Desk_to.me (ok_Desk_to T) (hr.mono (by decide)) T.Desk_to.bd .nil (passes_call (takes_of rfl rfl rfl rfl) (fun _ _ _ _ h => h)) (pa_cons (pv 4) (pa_cons (pe_ix ix_list (pv 2) pe_int (fun _ _ => rfl)) pa_nil))))) pss_nil)
      (pss_cons (ps_if (pt_cmpR op_eq (pv 1) (pgi rfl T.cOUT) (nomark _)) (pss_one (ps_ret (pe_meth (pv 0) T.kDesk T.Desk_out.me (ok_Desk_out T) (hr.mono (by decide)) T.Desk_out.bd .nil (passes_call (takes_of rfl rfl rfl rfl) (fun _ _ _ _ h => h)) (pa_cons (pv 4) (pa_cons (pe_ix ix_list (pv 2) pe_int (fun _ _ => rfl)) pa_nil))))) pss_nil)
      (pss_cons (ps_if (pt_cmpR op_eq (pv 1) (pgi rfl T.cFROM) (nomark _)) (pss_one (ps_ret (pe_meth (pv 0) T.kDesk T.Desk_sent_as.me (ok_Desk_sent_as T) (hr.mono (by decide)) T.Desk_sent_as.bd .nil (passes_call (takes_of rfl rfl rfl rfl) (fun _ _ _ _ h => h)) (pa_cons (pv 4) (pa_cons (pe_ix ix_list (pv 2) pe_int (fun _ _ => rfl)) (pa_cons (pv 3) pa_nil)))))) pss_nil)
      (pss_one (ps_ret (pe_call (ok_looked_told T) (hr.mono (by decide)) rfl T.looked_told.gl T.looked_told.kp T.looked_told.bd .nil (passes_call (takes_of rfl rfl rfl rfl) (fun _ _ _ _ h => h)) (pa_cons (pv 0) (pa_cons (pv 1) (pa_cons (pv 4) (pa_cons (pv 2) pa_nil))))))))))))))))))), ?_⟩)
  · obtain ⟨D, Tt, na, ra, st, c, ns, rs, rfl, _⟩ := h
    rfl
  · obtain ⟨D, Tt, na, ra, st, c, ns, rs, rfl, d, hS, hR, hc1, hc2, h1, h2, k⟩ := h
    refine ⟨_, rfl, na, _, _, _, rfl, rfl, hS, num_at h1, ?_⟩
    generalize ns.getD 0 0 = z at k ⊢
    have no : ¬ (0 ≤ z ∧ z ≤ 1) → ∀ d', H d' = none → E (.ref T.cRef) (some d') (upd H d' (.xd [(("why" : Str), .int (-2))])) := fun c d' nd => by
      unfold aTab at k
      rw [below_none (m := 2) (fun q => c ⟨q.1, by have := q.2; omega⟩)] at k
      exact k.no d (Same.refl H) nd
    refine ⟨_, rfl, _, _, rfl, rfl, _, rfl, ?_⟩
    by_cases c1 : 0 ≤ z
    · refine ifT (decide_eq_true c1) ⟨_, _, rfl, rfl, _, rfl, _, rfl, _, _, rfl, fun cc => ?_, fun cc => no fun q => ?_⟩
      · have c2 : z ≤ 1 := by simpa using cc
        obtain ⟨i, rfl⟩ := nat_of c1
        have hi : i < 2 := by omega
        unfold aTab at k
        rw [below_some hi] at k
        have k : Told T.cDesk T.cRef T.cNR H D Tt Q E (aTabI st c i (ns.getD 1 0) rs) := k
        obtain ⟨dx, xs, a, hD, hT, hat, hix, ht, wf, hn1, hn7⟩ := d.view hi
        refine ⟨_, rfl, rfl, _, rfl, ?_⟩
        by_cases e1 : c = 1
        · subst e1
          exact ifT rfl ⟨_, rfl, D, _, _, rfl, hD, dk_no, _, rfl, _, rfl, D, Tt, ra, st, i, rs, rfl, d, hi, hR, k⟩
        refine ifF (ne_dec e1) ?_
        refine ⟨_, rfl, rfl, _, rfl, ?_⟩
        by_cases e2 : c = 2
        · subst e2
          exact ifT rfl ⟨_, rfl, D, _, _, rfl, hD, dk_no, _, rfl, _, rfl, na, _, _, _, rfl, rfl, hS, num_at (h2 rfl), _, rfl, D, Tt, ra, st, i, _, rs, rfl, d, hi, hR, k⟩
        refine ifF (ne_dec e2) ?_
        refine ⟨_, rfl, rfl, _, rfl, ?_⟩
        by_cases e3 : c = 3
        · subst e3
          exact ifT rfl ⟨_, rfl, D, _, _, rfl, hD, dk_no, _, rfl, _, rfl, na, _, _, _, rfl, rfl, hS, num_at (h2 rfl), D, Tt, st, i, _, rfl, d, hi, k⟩
        refine ifF (ne_dec e3) ?_
        refine ⟨_, rfl, rfl, _, rfl, ?_⟩
        by_cases e4 : c = 4
        · subst e4
          have k : Told T.cDesk T.cRef T.cNR H D Tt Q E (st, VapktBase.flatTable (Vapktb.tableAt st i)) := k
          exact ifT rfl ⟨_, rfl, _, _, _, _, _, rfl, hD, T.kDesk, T.nDesk_tables, dk_tables, _, rfl, _, _, _, _, rfl, rfl, SqL.of (hT), hat, a, _, rfl, ht, wf.1, fun H1 p f1 s1 hp => k.same d f1 s1 hp⟩
        refine ifF (ne_dec e4) ?_
        refine ⟨_, rfl, rfl, _, rfl, ?_⟩
        by_cases e5 : c = 5
        · subst e5
          exact ifT rfl ⟨_, rfl, D, _, _, rfl, hD, dk_no, _, rfl, _, rfl, na, _, _, _, rfl, rfl, hS, num_at (h2 rfl), D, Tt, st, i, _, rfl, d, hi, k⟩
        refine ifF (ne_dec e5) ?_
        refine ⟨_, rfl, rfl, _, rfl, ?_⟩
        by_cases e6 : c = 6
        · subst e6
          exact ifT rfl ⟨_, rfl, D, _, _, rfl, hD, dk_no, _, rfl, _, rfl, na, _, _, _, rfl, rfl, hS, num_at (h2 rfl), D, Tt, st, i, _, rfl, d, hi, k⟩
        refine ifF (ne_dec e6) ?_
        refine ⟨_, rfl, rfl, _, rfl, ?_⟩
        by_cases e7 : c = 7
        · subst e7
          have k : Told T.cDesk T.cRef T.cNR H D Tt Q E (st, Vapktb.setTold st.wide (Vapktb.holeSet st.wide (Vapktb.tableAt st i))) := k
          rw [hole_told] at k
          have ht' := ht
          obtain ⟨as, ha, hp⟩ := ht
          refine ifT rfl ⟨_, rfl, _, _, _, _, _, rfl, hD, T.kDesk, T.nDesk_tables, dk_tables, _, rfl, _, _, _, _, rfl, rfl, SqL.of (hT), hat, _, rfl, _, _, _, _, _, rfl, hD, T.kDesk, T.nDesk_tables, dk_tables, _, rfl, _, _, _, _, rfl, rfl, SqL.of (hT), hat, a, _, rfl, .inl (SqL.of ha), ?_⟩
          rw [List.length_map, Paired.len hp]
          refine ⟨_, rfl, _, _, _, _, _, rfl, hD, T.kDesk, T.nDesk_bits, dk_bits, a, Vapktb.tableAt st i, (Vapktb.tableAt st i).length, st.wide, rfl, ht', hn7, fun H1 p s1 hp1 => ?_⟩
          exact ⟨_, rfl, _, _, _, _, _, rfl, s1 _ _ hD, T.kDesk, T.nDesk_bits, dk_bits, p, _, st.wide, rfl, SqL.of hp1, hn7, hds128 hn7 _, fun H2 q fq s2 hq => k.same d (s1.free fq) (s1.trans s2) hq⟩
        refine ifF (ne_dec e7) ?_
        refine ⟨_, rfl, rfl, _, rfl, ?_⟩
        by_cases e8 : c = 8
        · subst e8
          exact ifT rfl ⟨_, rfl, D, _, _, rfl, hD, dk_no, _, rfl, _, rfl, na, _, _, _, rfl, rfl, hS, num_at (h2 rfl), D, Tt, st, i, _, rfl, d, hi, k⟩
        refine ifF (ne_dec e8) ?_
        refine ⟨_, rfl, rfl, _, rfl, ?_⟩
        by_cases e9 : c = 9
        · subst e9
          exact ifT rfl ⟨_, rfl, D, _, _, rfl, hD, dk_no, _, rfl, _, rfl, na, _, _, _, rfl, rfl, hS, num_at (h2 rfl), D, Tt, st, i, _, rfl, d, hi, k⟩
        refine ifF (ne_dec e9) ?_
        refine ⟨_, rfl, rfl, _, rfl, ?_⟩
        by_cases e10 : c = 10
        · subst e10
          exact ifT rfl ⟨_, rfl, D, _, _, rfl, hD, dk_no, _, rfl, _, rfl, na, _, _, _, rfl, rfl, hS, num_at (h2 rfl), _, rfl, D, Tt, ra, st, i, _, rs, rfl, d, hi, hR, k⟩
        refine ifF (ne_dec e10) ?_
        refine ⟨_, rfl, _, rfl, _, rfl, _, rfl, D, Tt, na, st, c, i, ns, rfl, d, hi, hS, by omega, hc2, h2, ?_⟩
        rw [aTabI_no (by omega)] at k
        exact k
      · simp at cc
        omega
    · exact ifF (decide_eq_false c1) ⟨_, rfl, _, rfl, _, _, rfl, fun c => (by cases c), fun _ => no fun z => c1 z.1⟩
def spCall (K : PySem.W.Frag) (C CR CN : Addr) : Sp := fun vs H Q E => ∃ (D Tt na ra : Addr) (st : State) (c : Nat) (ns rs : List Int), vs = [.ref D, .int (c : Nat), .ref na, .ref ra] ∧ DeskAt C H D Tt st ∧ SqL K H na (ns.map V.int) ∧ SqL K H ra (rs.map V.int) ∧ c < 20 ∧ (c < 18 → 0 < ns.length) ∧ (two c = true → 1 < ns.length) ∧
  Told C CR CN H D Tt Q E (aCall st c ns rs)
theorem ok_call_told (T : Txt K mg) : FnOk P w K mg base (L2.CX P w) 12 T.call_told.f T.call_told.fd ["desk", "call", "numbers", "row"] (spCall K T.cDesk T.cRef T.cNR) := by
  refine T.call_told.fn.okX sc_call_told (fun vs H Q E h => ?_) (fun cdv A outer s H vs Q E hr h => ⟨_, (pss_cons (ps_if (pt_cmpR op_eq (pv 1) (pgi rfl T.cWIDE) (nomark _)) (pss_one (ps_ret (pe_meth (pv 0) T.kDesk T.Desk_wide.me (ok_Desk_wide T) (hr.mono (by decide)) T.Desk_wide.bd .nil (passes_call (takes_of rfl rfl rfl rfl) (fun _ _ _ _ h => h)) (pa_cons (pe_ix ix_list (pv 2) pe_int (fun _ _ => rfl)) pa_nil)))) pss_nil)
      (pss_cons (ps_if (pt_cmpR op_le (pv 1) (pgi rfl T.cCOUNTS) (nomark _)) (pss_one (ps_ret (pe_call (ok_table_told T) (hr.mono (by decide)) rfl T.table_told.gl T.table_told.kp T.table_told.bd .nil (passes_call (takes_of rfl rfl rfl rfl) (fun _ _ _ _ h => h)) (pa_cons (pv 0) (pa_cons (pv 1) (pa_cons (pv 2) (pa_cons (pv 3) pa_nil))))))) pss_nil)
      (pss_cons (ps_if (pt_cmpR op_eq (pv 1) (pgi rfl T.cOTHER) (nomark _)) (pss_one (ps_ret (pe_meth0 (pv 0) T.kDesk T.Desk_other.me (ok_Desk_other T) (hr.mono (by decide)) T.Desk_other.bd .nil pass0))) pss_nil)
      (pss_one (ps_ret (pe_meth0 (pv 0) T.kDesk T.Desk_classes.me (ok_Desk_classes T) (hr.mono (by decide)) T.Desk_classes.bd .nil pass0)))))), ?_⟩)
  · obtain ⟨D, Tt, na, ra, st, c, ns, rs, rfl, _⟩ := h
    rfl
  · obtain ⟨D, Tt, na, ra, st, c, ns, rs, rfl, d, hS, hR, hc, h1, h2, k⟩ := h
    obtain ⟨dx, xs, a, hD, hT, hat, hix, ht, wf, hn1, hn7⟩ := d.view (i := 0) (by decide)
    refine ⟨_, rfl, rfl, _, rfl, ?_⟩
    by_cases e0 : c = 0
    · subst e0
      exact ifT rfl ⟨_, rfl, D, _, _, rfl, hD, dk_no, _, rfl, na, _, _, _, rfl, rfl, hS, num_at (h1 (by decide)), D, Tt, st, _, rfl, d, k⟩
    refine ifF (ne_dec e0) ?_
    refine ⟨_, rfl, _, _, rfl, rfl, _, rfl, ?_⟩
    by_cases e1 : c ≤ 17
    · refine ifT (decide_eq_true (by omega)) ⟨_, rfl, _, rfl, _, rfl, _, rfl, D, Tt, na, ra, st, c, ns, rs, rfl, d, hS, hR, by omega, e1, h1 (by omega), h2, ?_⟩
      rw [aCall_mid (by omega) e1] at k
      exact k
    refine ifF (decide_eq_false (by omega)) ⟨_, rfl, rfl, _, rfl, ?_⟩
    by_cases e2 : c = 18
    · subst e2
      exact ifT rfl ⟨_, rfl, D, _, _, rfl, hD, dk_no, D, Tt, st, E, rfl, d, k⟩
    · have e3 : c = 19 := by omega
      subst e3
      exact ifF rfl ⟨_, rfl, D, _, _, rfl, hD, dk_no, D, Tt, st, E, rfl, d, k⟩
end
end Rt

/-! answer_of, CallReader -/
namespace Rt
open PySem PySem.Spec PyProof.Rows L2
open VapktBase (Rule Action Table Rewrite)
open Vapktb (State)
section
variable {P : Program} {w : World} {K : PySem.W.Frag} {mg : Str → Option Value} {base : Heap}
def spAnswer (K : PySem.W.Frag) (C : Addr) : Sp := fun vs H Q _ => ∃ (D Tt na ra : Addr) (st : State) (c : Nat) (ns rs : List Int), vs = [.ref D, .int (c : Nat), .ref na, .ref ra] ∧ DeskAt C H D Tt st ∧ SqL K H na (ns.map V.int) ∧ SqL K H ra (rs.map V.int) ∧ c < 20 ∧ (c < 18 → 0 < ns.length) ∧ (two c = true → 1 < ns.length) ∧
  ∀ H' p Tt', H p = none → After C H H' D Tt Tt' (aCall st c ns rs).1 → IntsAt H' p (aCall st c ns rs).2 → Q (.ref p) H'
theorem ok_answer_of (T : Txt K mg) : FnOk P w K mg base CX0 13 T.answer_of.f T.answer_of.fd ["desk", "call", "numbers", "row"] (spAnswer K T.cDesk) := by
  refine T.answer_of.fn.ok sc_answer_of (fun vs H Q E h => ?_) (fun cdv A outer s H vs Q E hr h => ⟨_, (pss_one (ps_try_two (i := 4) (tb := fun W => tRet (tCallS (spCall K T.cDesk T.cRef T.cNR) (WE W) (tCons (tVar 0) (tCons (tVar 1) (tCons (tVar 2) (tCons (tVar 3) tNil)))))) (ts := fun a cls d => tRet (tLst (tCons (tByLow T.cRef a cls d (tVar 4)) tNil))) (ts2 := fun _ _ _ => tRet (tLst (tCons (tUn (rU fun i => .int (-i)) (tC (.int 1))) tNil))) rfl rfl sc_answer_of.nd rfl rfl ⟨rfl, by decide, Or.inl T.low.gC⟩ ⟨rfl, by decide, Or.inl T.gF⟩ (fun W pn xe tk _ => pss_one (ps_ret (by exact (pe_callS (ok_call_told T) (hr.mono (by decide)) rfl T.call_told.gl T.call_told.kp T.call_told.bd (fun σ => passAt tk σ) (by exact (pa_cons (pv 0) (pa_cons (pv 1) (pa_cons (pv 2) (pa_cons (pv 3) pa_nil)))))))) ) (fun a oe cls d pn hz hf => pss_one (ps_ret (by exact (pe_lst (pa_cons (pe_byLow T.low hz hf (pv 4)) pa_nil))))) (fun a oe cls d pn hz hf => pss_one (ps_ret (by exact (pe_lst (pa_cons (pe_un un_neg pe_int) pa_nil))))))), ?_⟩)
  · obtain ⟨D, Tt, na, ra, st, c, ns, rs, rfl, _⟩ := h
    rfl
  · obtain ⟨D, Tt, na, ra, st, c, ns, rs, rfl, d, hS, hR, hc, h1, h2, k⟩ := h
    generalize hx : aCall st c ns rs = x at k
    refine ⟨_, rfl, _, rfl, _, rfl, _, rfl, D, Tt, na, ra, st, c, ns, rs, rfl, d, hS, hR, hc, h1, h2, ?_⟩
    rw [hx]
    refine ⟨fun H' p Tt' n A hp => k H' p Tt' n A hp, fun z e H' dd Tt' A hd => ?_, fun e H' Tt' A => ?_⟩
    · refine ⟨true, T.low.te, fun _ a0 _ => ?_, fun q => Bool.noConfusion q⟩
      refine ⟨_, rfl, rfl, rfl, dd, _, rfl, hd, (by show 1 ≤ sizeLine; decide), fun p np => ?_⟩
      exact k _ p Tt' (A.fr _ np) (A.on (snew np)) (IntsAt.new (by rw [e]; rfl))
    · refine ⟨false, T.rNR, fun q => Bool.noConfusion q, fun _ => ⟨T.eF, fun a _ => ?_⟩⟩
      refine ⟨_, rfl, (by show 1 ≤ sizeLine; decide), fun p np => ?_⟩
      exact k _ p Tt' (A.fr _ np) (A.on (snew np)) (IntsAt.new (by rw [e]; rfl))
/-- the reader of calls -/
def crF (ca : Addr) (i : Int) : List (Str × V) := [("calls", .ref ca), ("at", .int i)]
theorem cr_calls {ca : Addr} {i : Int} : List.lookup ("calls" : Str) (crF ca i) = some (.ref ca) := lk1
theorem cr_at {ca : Addr} {i : Int} : List.lookup ("at" : Str) (crF ca i) = some (.int i) := (lk2 (by decide +kernel)).trans lk1
theorem cr_no {m : Str} {ca : Addr} {i : Int} (h1 : (m == ("calls" : Str)) = false := by decide +kernel) (h2 : (m == ("at" : Str)) = false := by decide +kernel) : List.lookup m (crF ca i) = none := (lk2 h1).trans ((lk2 h2).trans rfl)
theorem cr_put {ca : Addr} {i j : Int} : putF "at" (.int j) (crF ca i) = crF ca j := (pf2 (by decide +kernel)).trans (congrArg _ pf1)
def CrAt (C : Addr) (H : Hp) (R ca : Addr) (i : Nat) : Prop := ∃ dx, H R = some (.ins C dx (crF ca (i : Nat)))
def spCInit (C : Addr) : Sp := fun vs H Q _ => ∃ (R dx ca : Addr), vs = [.ref R, .ref ca] ∧ H R = some (.ins C dx []) ∧ ∀ H', CrAt C H' R ca 0 → Keep R H H' → Q .non H'
theorem ok_CallReader_init (T : Txt K mg) : FnOk P w K mg base CX0 1 T.CallReader_init.f T.CallReader_init.fd ["self", "calls"] (spCInit T.cCallReader) := by
  refine T.CallReader_init.fn.ok sc_CallReader_init (fun vs H Q E h => ?_) (fun cdv A outer s H vs Q E hr h => ⟨_, (pss_cons (ps_fld (pv 0) (pv 1) rfl)
      (pss_one (ps_fld (pv 0) pe_int rfl))), ?_⟩)
  · obtain ⟨R, dx, ca, rfl, _⟩ := h
    rfl
  · obtain ⟨R, dx, ca, rfl, hR, k⟩ := h
    refine ⟨_, rfl, _, rfl, R, T.cCallReader, dx, [], rfl, hR, T.kCallReader, T.nCallReader_calls, (by show 0 < 1000; decide), ?_⟩
    refine ⟨_, rfl, R, T.cCallReader, dx, _, rfl, upd_same, T.kCallReader, T.nCallReader_at, (by show 1 < 1000; decide), ?_⟩
    refine k _ ⟨dx, ?_⟩ (keep_upd.trans keep_upd)
    rw [upd_same]
    refine congrArg (fun q => some (HO.ins T.cCallReader dx q)) ?_
    show putF "at" (.int 0) [("calls", .ref ca)] = _
    rw [pf2 (by decide +kernel)]
    rfl
def spIsDone (K : PySem.W.Frag) (C : Addr) : Sp := fun vs H Q _ => ∃ (R ca : Addr) (i : Nat) (l : List Int), vs = [.ref R] ∧ CrAt C H R ca i ∧ SqL K H ca (l.map V.int) ∧ Q (.bl (decide (l.length ≤ i))) H
theorem ok_CallReader_is_done (T : Txt K mg) : FnOk P w K mg base CX0 1 T.CallReader_is_done.f T.CallReader_is_done.fd ["self"] (spIsDone K T.cCallReader) := by
  refine T.CallReader_is_done.fn.ok sc_CallReader_is_done (fun vs H Q E h => ?_) (fun cdv A outer s H vs Q E hr h => ⟨_, (pss_one (ps_ret (pe_cmpR op_ge (pe_fld (pv 0) rfl) (pe_callB call_len_seq (by rfl) T.zlen PySem.boot_len (pa_cons (pe_fld (pv 0) rfl) pa_nil)) (nomark _)))), ?_⟩)
  · obtain ⟨R, ca, i, l, rfl, _⟩ := h
    rfl
  · obtain ⟨R, ca, i, l, rfl, ⟨dx, hR⟩, hS, k⟩ := h
    refine ⟨_, rfl, R, T.cCallReader, dx, _, _, rfl, hR, T.kCallReader, T.nCallReader_at, cr_at, _, rfl, R, T.cCallReader, dx, _, _, rfl, hR, T.kCallReader, T.nCallReader_calls, cr_calls, ca, _, rfl, .inl hS, _, _, rfl, rfl, ?_⟩
    rw [List.length_map]
    have e : decide (((l.length : Nat) : Int) ≤ (i : Nat)) = decide (l.length ≤ i) := decide_eq_decide.mpr Int.ofNat_le
    show Q (.bl (decide (((l.length : Nat) : Int) ≤ (i : Nat)))) H
    rw [e]
    exact k
theorem cut_mid (l : List V) {i m : Nat} (h : i + m ≤ l.length) : cutV l (some (i : Int)) (some ((i + m : Nat) : Int)) = (l.drop i).take m := by
  unfold cutV
  rw [HT.sIx_nat, HT.sIx_nat, Nat.min_eq_left h, Nat.min_eq_left (show i ≤ l.length by omega), Nat.add_sub_cancel_left]
def spNext (K : PySem.W.Frag) (C : Addr) : Sp := fun vs H Q _ => ∃ (R ca : Addr) (i m : Nat) (l : List Int), vs = [.ref R, .int (m : Nat)] ∧ CrAt C H R ca i ∧ SqL K H ca (l.map V.int) ∧ i + m ≤ l.length ∧
  ∀ H' p, H p = none → CrAt C H' R ca (i + m) → Keep R H H' → IntsAt H' p ((l.drop i).take m) → Q (.ref p) H'
theorem ok_CallReader_next_some (T : Txt K mg) : FnOk P w K mg base CX0 1 T.CallReader_next_some.f T.CallReader_next_some.fd ["self", "many"] (spNext K T.cCallReader) := by
  refine T.CallReader_next_some.fn.ok sc_CallReader_next_some (fun vs H Q E h => ?_) (fun cdv A outer s H vs Q E hr h => ⟨_, (pss_cons (ps_fldaug (pv 0) (pv 1) in_add)
      (pss_one (ps_ret (pe_slice sl_list (pe_fld (pv 0) rfl) (po_some (pe_op op_sub (pe_fld (pv 0) rfl) (pv 1))) (po_some (pe_fld (pv 0) rfl)))))), ?_⟩)
  · obtain ⟨R, ca, i, m, l, rfl, _⟩ := h
    rfl
  · obtain ⟨R, ca, i, m, l, rfl, ⟨dx, hR⟩, hS, hm, k⟩ := h
    refine ⟨_, rfl, R, T.cCallReader, dx, _, _, rfl, hR, T.kCallReader, T.nCallReader_at, cr_at, _, rfl, _, _, rfl, rfl, dx, _, hR, (by show 2 < 1000; decide), ?_⟩
    have ei : ((i : Nat) : Int) + ((m : Nat) : Int) = ((i + m : Nat) : Int) := by omega
    rw [cr_put, ei]
    have hR1 : upd H R (.ins T.cCallReader dx (crF ca ((i + m : Nat) : Int))) R = some (.ins T.cCallReader dx (crF ca ((i + m : Nat) : Int))) := upd_same
    have k1 : Keep R H (upd H R (.ins T.cCallReader dx (crF ca ((i + m : Nat) : Int)))) := keep_upd
    have f1 : ∀ b, upd H R (.ins T.cCallReader dx (crF ca ((i + m : Nat) : Int))) b = none → H b = none := fun b e => by
      by_cases c : b = R
      · rw [c, upd_same] at e; cases e
      · rw [upd_ne c] at e; exact e
    generalize upd H R (.ins T.cCallReader dx (crF ca ((i + m : Nat) : Int))) = H1 at hR1 k1 f1
    have hS1 := SqL.keepI hR k1 hS
    refine ⟨_, rfl, R, T.cCallReader, dx, _, _, rfl, hR1, T.kCallReader, T.nCallReader_calls, cr_calls, _, rfl, R, T.cCallReader, dx, _, _, rfl, hR1, T.kCallReader, T.nCallReader_at, cr_at, _, rfl, _, _, rfl, rfl, _, rfl, _, rfl, R, T.cCallReader, dx, _, _, rfl, hR1, T.kCallReader, T.nCallReader_at, cr_at, _, rfl, ca, _, rfl, hS1, fun p np => ?_⟩
    have es : ((i + m : Nat) : Int) - ((m : Nat) : Int) = ((i : Nat) : Int) := by omega
    rw [es, cut_mid _ (by rw [List.length_map]; exact hm)]
    refine k _ p (f1 _ np) ⟨dx, snew np _ _ hR1⟩ (k1.trans (Keep.of (snew np))) (IntsAt.new ?_)
    rw [map_drop', map_take']
end
end Rt

/-! Plain laws, part 6: the calls of a list, played -/
namespace Rt
open VapktBase (Rule Action Table Rewrite)
open Vapktb (State)
open PySem PySem.Spec PyProof.Rows L2
/-- how many numbers, how many rows -/
theorem shape_at {p : Int} {n k : Nat} (h : PyVapktb.shape p = some (n, k)) : ∃ c : Nat, p = (c : Nat) ∧ c < 20 ∧ numbersV[c]? = some (V.int (n : Nat)) ∧ rowsV[c]? = some (V.int (k : Nat)) ∧ k ≤ 1 ∧ (c < 18 → 0 < n) ∧ (two c = true → 1 < n) := by
  unfold PyVapktb.shape at h
  refine ⟨p.toNat, ?_⟩
  by_cases c0 : p = 0
  · subst c0; cases h; exact ⟨rfl, by decide, rfl, rfl, by decide, by decide, by decide⟩
  rw [if_neg c0] at h
  by_cases c1 : p = 1
  · subst c1; cases h; exact ⟨rfl, by decide, rfl, rfl, by decide, by decide, by decide⟩
  rw [if_neg c1] at h
  by_cases c2 : p = 2
  · subst c2; cases h; exact ⟨rfl, by decide, rfl, rfl, by decide, by decide, by decide⟩
  rw [if_neg c2] at h
  by_cases c3 : p = 3
  · subst c3; cases h; exact ⟨rfl, by decide, rfl, rfl, by decide, by decide, by decide⟩
  rw [if_neg c3] at h
  by_cases c4 : p = 4
  · subst c4; cases h; exact ⟨rfl, by decide, rfl, rfl, by decide, by decide, by decide⟩
  rw [if_neg c4] at h
  by_cases c5 : p = 5
  · subst c5; cases h; exact ⟨rfl, by decide, rfl, rfl, by decide, by decide, by decide⟩
  rw [if_neg c5] at h
  by_cases c6 : p = 6
  · subst c6; cases h; exact ⟨rfl, by decide, rfl, rfl, by decide, by decide, by decide⟩
  rw [if_neg c6] at h
  by_cases c7 : p = 7
  · subst c7; cases h; exact ⟨rfl, by decide, rfl, rfl, by decide, by decide, by decide⟩
  rw [if_neg c7] at h
  by_cases c8 : p = 8
  · subst c8; cases h; exact ⟨rfl, by decide, rfl, rfl, by decide, by decide, by decide⟩
  rw [if_neg c8] at h
  by_cases c9 : p = 9
  · subst c9; cases h; exact ⟨rfl, by decide, rfl, rfl, by decide, by decide, by decide⟩
  rw [if_neg c9] at h
  by_cases c10 : p = 10
  · subst c10; cases h; exact ⟨rfl, by decide, rfl, rfl, by decide, by decide, by decide⟩
  rw [if_neg c10] at h
  by_cases c11 : p = 11
  · subst c11; cases h; exact ⟨rfl, by decide, rfl, rfl, by decide, by decide, by decide⟩
  rw [if_neg c11] at h
  by_cases c12 : p = 12
  · subst c12; cases h; exact ⟨rfl, by decide, rfl, rfl, by decide, by decide, by decide⟩
  rw [if_neg c12] at h
  by_cases c13 : p = 13
  · subst c13; cases h; exact ⟨rfl, by decide, rfl, rfl, by decide, by decide, by decide⟩
  rw [if_neg c13] at h
  by_cases c14 : p = 14
  · subst c14; cases h; exact ⟨rfl, by decide, rfl, rfl, by decide, by decide, by decide⟩
  rw [if_neg c14] at h
  by_cases c15 : p = 15
  · subst c15; cases h; exact ⟨rfl, by decide, rfl, rfl, by decide, by decide, by decide⟩
  rw [if_neg c15] at h
  by_cases c16 : p = 16
  · subst c16; cases h; exact ⟨rfl, by decide, rfl, rfl, by decide, by decide, by decide⟩
  rw [if_neg c16] at h
  by_cases c17 : p = 17
  · subst c17; cases h; exact ⟨rfl, by decide, rfl, rfl, by decide, by decide, by decide⟩
  rw [if_neg c17] at h
  by_cases c18 : p = 18
  · subst c18; cases h; exact ⟨rfl, by decide, rfl, rfl, by decide, by decide, by decide⟩
  rw [if_neg c18] at h
  by_cases c19 : p = 19
  · subst c19; cases h; exact ⟨rfl, by decide, rfl, rfl, by decide, by decide, by decide⟩
  rw [if_neg c19] at h
  cases h
theorem whole_id (c : List (List Int)) : PyVapktb.whole c = c := by
  unfold PyVapktb.whole
  split <;> rfl
theorem calls_eq (l : List Int) : PyVapktb.calls l = PyFlat.calls PyVapktb.shape l.length l := by
  unfold PyVapktb.calls
  cases PyFlat.calls PyVapktb.shape l.length l with
  | none => rfl
  | some cs =>
    show some (cs.map PyVapktb.whole) = some cs
    rw [show PyVapktb.whole = id from funext whole_id, List.map_id]
/-- the row of a call -/
theorem row_some {r : List Int} {x s : List Int} (h : PyFlat.row r = some (x, s)) : ∃ m : Nat, r.head? = some (m : Int) ∧ m + 1 ≤ r.length ∧ x = (r.drop 1).take m ∧ s = r.drop (m + 1) := by
  cases r with
  | nil => cases h
  | cons z r =>
    have h : (if 0 ≤ z ∧ z.toNat ≤ r.length then some (r.take z.toNat, r.drop z.toNat) else none) = some (x, s) := h
    by_cases c : 0 ≤ z ∧ z.toNat ≤ r.length
    · rw [if_pos c] at h
      cases h
      refine ⟨z.toNat, ?_, Nat.succ_le_succ c.2, rfl, rfl⟩
      show some z = some ((z.toNat : Nat) : Int)
      rw [Int.toNat_of_nonneg c.1]
    · rw [if_neg c] at h
      cases h
/-- a call's numbers and its row as the program reads them: what is read, where the next call begins -/
def callAt (l : List Int) (i : Nat) (c n k : Nat) (ns rs : List Int) (j : Nat) : Prop :=
  l[i]? = some (c : Int) ∧ i + 1 + n ≤ l.length ∧ ns = (l.drop (i + 1)).take n ∧ ((k = 0 ∧ rs = [] ∧ j = i + 1 + n) ∨
    (k = 1 ∧ ∃ m : Nat, l[i + 1 + n]? = some (m : Int) ∧ i + 1 + n + 1 + m ≤ l.length ∧ rs = (l.drop (i + 1 + n + 1)).take m ∧ j = i + 1 + n + 1 + m))
def rowsOf (k : Nat) (rs : List Int) : List (List Int) := if k = 0 then [] else [rs]
theorem calls_step {f : Nat} {l : List Int} {i : Nat} {cs : List (List (List Int))} (h : PyFlat.calls PyVapktb.shape f (l.drop i) = some cs) (hi : i < l.length) :
    ∃ (c n k : Nat) (ns rs : List Int) (j f' : Nat) (cs' : List (List (List Int))), PyVapktb.shape (c : Nat) = some (n, k) ∧ c < 20 ∧ numbersV[c]? = some (V.int (n : Nat)) ∧ rowsV[c]? = some (V.int (k : Nat)) ∧ (c < 18 → 0 < n) ∧ (two c = true → 1 < n) ∧
      callAt l i c n k ns rs j ∧ cs = (((c : Int) :: ns) :: rowsOf k rs) :: cs' ∧ PyFlat.calls PyVapktb.shape f' (l.drop j) = some cs' := by
  have ed : l.drop i = l[i] :: l.drop (i + 1) := List.drop_eq_getElem_cons hi
  have eg : l[i]? = some l[i] := List.getElem?_eq_getElem hi
  rw [ed] at h
  generalize l[i] = p at h eg
  cases f with
  | zero => cases h
  | succ f =>
    have h : (match PyFlat.call PyVapktb.shape (p :: l.drop (i + 1)) with | none => none | some (c, t) => match PyFlat.calls PyVapktb.shape f t with | none => none | some cs => some (c :: cs)) = some cs := h
    cases hc : PyFlat.call PyVapktb.shape (p :: l.drop (i + 1)) with
    | none => rw [hc] at h; cases h
    | some ct =>
      obtain ⟨c0, t⟩ := ct
      rw [hc] at h
      have h : (match PyFlat.calls PyVapktb.shape f t with | none => none | some cs => some (c0 :: cs)) = some cs := h
      cases ht : PyFlat.calls PyVapktb.shape f t with
      | none => rw [ht] at h; cases h
      | some cs' =>
        rw [ht] at h
        have hcs : c0 :: cs' = cs := Option.some.inj h
        clear h
        have hc : (match PyVapktb.shape p with | none => none | some (n, k) => if (l.drop (i + 1)).length < n then none else match PyFlat.rows k ((l.drop (i + 1)).drop n) with | none => none | some (xs, t) => some ((p :: (l.drop (i + 1)).take n) :: xs, t)) = some (c0, t) := hc
        cases hs : PyVapktb.shape p with
        | none => rw [hs] at hc; cases hc
        | some nk =>
          obtain ⟨n, k⟩ := nk
          obtain ⟨c, rfl, hc20, hn, hk, hk1, h18, h2⟩ := shape_at hs
          rw [hs] at hc
          have hc : (if (l.drop (i + 1)).length < n then none else match PyFlat.rows k ((l.drop (i + 1)).drop n) with | none => none | some (xs, t) => some ((((c : Nat) : Int) :: (l.drop (i + 1)).take n) :: xs, t)) = some (c0, t) := hc
          by_cases cl : (l.drop (i + 1)).length < n
          · rw [if_pos cl] at hc; cases hc
          · rw [if_neg cl] at hc
            rw [List.length_drop] at cl
            rw [List.drop_drop] at hc
            rcases (show k = 0 ∨ k = 1 by omega) with rfl | rfl
            · have hc := Option.some.inj hc
              cases hc
              refine ⟨c, n, 0, _, [], i + 1 + n, f, cs', hs, hc20, hn, hk, h18, h2, ⟨eg, by omega, rfl, .inl ⟨rfl, rfl, rfl⟩⟩, hcs.symm, ?_⟩
              exact ht
            · cases hr : PyFlat.row (l.drop (i + 1 + n)) with
              | none =>
                have : PyFlat.rows 1 (l.drop (i + 1 + n)) = none := by
                  show (match PyFlat.row (l.drop (i + 1 + n)) with | none => none | some (x, s) => _) = none
                  rw [hr]
                rw [this] at hc
                cases hc
              | some xs =>
                obtain ⟨x, s⟩ := xs
                have e1 : PyFlat.rows 1 (l.drop (i + 1 + n)) = some ([x], s) := by
                  show (match PyFlat.row (l.drop (i + 1 + n)) with | none => none | some (x, s) => _) = _
                  rw [hr]
                  rfl
                rw [e1] at hc
                have hc := Option.some.inj hc
                cases hc
                obtain ⟨m, q1, q2, rfl, rfl⟩ := row_some hr
                rw [List.length_drop] at q2
                rw [List.head?_drop] at q1
                rw [List.drop_drop] at ht
                refine ⟨c, n, 1, _, _, i + 1 + n + 1 + m, f, cs', hs, hc20, hn, hk, h18, h2, ⟨eg, by omega, rfl, .inr ⟨rfl, m, q1, by omega, (by rw [List.drop_drop]), rfl⟩⟩, hcs.symm, ?_⟩
                rw [show i + 1 + n + 1 + m = i + 1 + n + (m + 1) by omega]
                exact ht
theorem calls_end {f : Nat} {l : List Int} {i : Nat} {cs : List (List (List Int))} (h : PyFlat.calls PyVapktb.shape f (l.drop i) = some cs) (hi : l.length ≤ i) : cs = [] := by
  rw [List.drop_eq_nil_of_le hi] at h
  cases f <;> exact (Option.some.inj h).symm
end Rt

/-! Plain laws, part 7: a call as the Spec has it -/
namespace Rt
open VapktBase (Rule Action Table Rewrite)
open Vapktb (State)
open PySem PySem.Spec PyProof.Rows L2
theorem len1 {l : List Int} (h : l.length = 1) : ∃ a, l = [a] := by
  match l, h with
  | [a], _ => exact ⟨a, rfl⟩
theorem len2 {l : List Int} (h : l.length = 2) : ∃ a b, l = [a, b] := by
  match l, h with
  | [a, b], _ => exact ⟨a, b, rfl⟩
theorem len0 {l : List Int} (h : l.length = 0) : l = [] := List.eq_nil_of_length_eq_zero h
theorem tab_step {st : State} {c : Nat} {z z2 : Int} {rs : List Int} {x : State × List Int} (h0 : Vapktb.belowN z 2 = none → x = (st, [-2])) (h1 : ∀ i, Vapktb.belowN z 2 = some i → x = aTabI st c i z2 rs) : x = aTab st c z z2 rs := by
  unfold aTab
  cases e : Vapktb.belowN z 2 with
  | none => exact h0 e
  | some i => exact h1 i e
theorem st_1 (st : State) (z : Int) (rs : List Int) : VapktbNeutral.step st [(1 : Int) :: [z], rs] = aTab st 1 z 0 rs := by
  have e : VapktbNeutral.step st [(1 : Int) :: [z], rs] = Vapktb.step st (.table z rs) := rfl
  rw [e]
  refine tab_step (fun h => ?_) (fun i h => ?_)
  · unfold Vapktb.step Vapktb.withTable
    simp only [h]
  · unfold Vapktb.step Vapktb.withTable
    simp only [h]
    rfl
theorem st_2 (st : State) (z z2 : Int) (rs : List Int) : VapktbNeutral.step st [(2 : Int) :: [z, z2], rs] = aTab st 2 z z2 rs := by
  have e : VapktbNeutral.step st [(2 : Int) :: [z, z2], rs] = Vapktb.step st (.put z z2 rs) := rfl
  rw [e]
  refine tab_step (fun h => ?_) (fun i h => ?_)
  · show Vapktb.doPut st z z2 rs = _
    unfold Vapktb.doPut Vapktb.withTable
    rw [h]
  · show Vapktb.doPut st z z2 rs = _
    unfold Vapktb.doPut Vapktb.withTable
    rw [h]
    rfl
theorem st_3 (st : State) (z z2 : Int) : VapktbNeutral.step st [(3 : Int) :: [z, z2]] = aTab st 3 z z2 [] := by
  have e : VapktbNeutral.step st [(3 : Int) :: [z, z2]] = Vapktb.step st (.take z z2) := rfl
  rw [e]
  refine tab_step (fun h => ?_) (fun i h => ?_)
  · unfold Vapktb.step Vapktb.withTable
    simp only [h]
  · unfold Vapktb.step Vapktb.withTable
    simp only [h]
    rfl
theorem st_4 (st : State) (z : Int) : VapktbNeutral.step st [(4 : Int) :: [z]] = aTab st 4 z 0 [] := by
  have e : VapktbNeutral.step st [(4 : Int) :: [z]] = Vapktb.step st (.shown z) := rfl
  rw [e]
  refine tab_step (fun h => ?_) (fun i h => ?_)
  · unfold Vapktb.step Vapktb.look Vapktb.withTable
    simp only [h]
  · unfold Vapktb.step Vapktb.look Vapktb.withTable
    simp only [h]
    rfl
theorem st_5 (st : State) (z z2 : Int) : VapktbNeutral.step st [(5 : Int) :: [z, z2]] = aTab st 5 z z2 [] := by
  have e : VapktbNeutral.step st [(5 : Int) :: [z, z2]] = Vapktb.step st (.does z z2) := rfl
  rw [e]
  refine tab_step (fun h => ?_) (fun i h => ?_)
  · unfold Vapktb.step Vapktb.onHeader Vapktb.look Vapktb.withTable
    simp only [h]
  · unfold Vapktb.step Vapktb.onHeader Vapktb.look Vapktb.withTable
    simp only [h]
    rfl
theorem st_6 (st : State) (z z2 : Int) : VapktbNeutral.step st [(6 : Int) :: [z, z2]] = aTab st 6 z z2 [] := by
  have e : VapktbNeutral.step st [(6 : Int) :: [z, z2]] = Vapktb.step st (.own z z2) := rfl
  rw [e]
  refine tab_step (fun h => ?_) (fun i h => ?_)
  · unfold Vapktb.step Vapktb.look Vapktb.withTable
    simp only [h]
  · unfold Vapktb.step Vapktb.look Vapktb.withTable
    simp only [h]
    rfl
theorem st_7 (st : State) (z : Int) : VapktbNeutral.step st [(7 : Int) :: [z]] = aTab st 7 z 0 [] := by
  have e : VapktbNeutral.step st [(7 : Int) :: [z]] = Vapktb.step st (.hole z) := rfl
  rw [e]
  refine tab_step (fun h => ?_) (fun i h => ?_)
  · unfold Vapktb.step Vapktb.look Vapktb.withTable
    simp only [h]
  · unfold Vapktb.step Vapktb.look Vapktb.withTable
    simp only [h]
    rfl
theorem st_8 (st : State) (z z2 : Int) : VapktbNeutral.step st [(8 : Int) :: [z, z2]] = aTab st 8 z z2 [] := by
  have e : VapktbNeutral.step st [(8 : Int) :: [z, z2]] = Vapktb.step st (.to z z2) := rfl
  rw [e]
  refine tab_step (fun h => ?_) (fun i h => ?_)
  · unfold Vapktb.step Vapktb.onPort Vapktb.look Vapktb.withTable
    simp only [h]
  · unfold Vapktb.step Vapktb.onPort Vapktb.look Vapktb.withTable
    simp only [h]
    rfl
theorem st_9 (st : State) (z z2 : Int) : VapktbNeutral.step st [(9 : Int) :: [z, z2]] = aTab st 9 z z2 [] := by
  have e : VapktbNeutral.step st [(9 : Int) :: [z, z2]] = Vapktb.step st (.out z z2) := rfl
  rw [e]
  refine tab_step (fun h => ?_) (fun i h => ?_)
  · unfold Vapktb.step Vapktb.onPort Vapktb.look Vapktb.withTable
    simp only [h]
  · unfold Vapktb.step Vapktb.onPort Vapktb.look Vapktb.withTable
    simp only [h]
    rfl
theorem st_10 (st : State) (z z2 : Int) (rs : List Int) : VapktbNeutral.step st [(10 : Int) :: [z, z2], rs] = aTab st 10 z z2 rs := by
  have e : VapktbNeutral.step st [(10 : Int) :: [z, z2], rs] = Vapktb.step st (.from_ z z2 rs) := rfl
  rw [e]
  refine tab_step (fun h => ?_) (fun i h => ?_)
  · unfold Vapktb.step Vapktb.onPort Vapktb.look Vapktb.withTable
    simp only [h]
  · unfold Vapktb.step Vapktb.onPort Vapktb.look Vapktb.withTable
    simp only [h]
    rfl
theorem st_11 (st : State) (z : Int) : VapktbNeutral.step st [(11 : Int) :: [z]] = aTab st 11 z 0 [] := by
  have e : VapktbNeutral.step st [(11 : Int) :: [z]] = Vapktb.step st (.idle z) := rfl
  rw [e]
  refine tab_step (fun h => ?_) (fun i h => ?_)
  · unfold Vapktb.step Vapktb.look Vapktb.withTable
    simp only [h]
  · unfold Vapktb.step Vapktb.look Vapktb.withTable
    simp only [h]
    rfl
theorem st_12 (st : State) (z : Int) : VapktbNeutral.step st [(12 : Int) :: [z]] = aTab st 12 z 0 [] := by
  have e : VapktbNeutral.step st [(12 : Int) :: [z]] = Vapktb.step st (.spare z) := rfl
  rw [e]
  refine tab_step (fun h => ?_) (fun i h => ?_)
  · unfold Vapktb.step Vapktb.look Vapktb.withTable
    simp only [h]
  · unfold Vapktb.step Vapktb.look Vapktb.withTable
    simp only [h]
    rfl
theorem st_13 (st : State) (z z2 : Int) : VapktbNeutral.step st [(13 : Int) :: [z, z2]] = aTab st 13 z z2 [] := by
  have e : VapktbNeutral.step st [(13 : Int) :: [z, z2]] = Vapktb.step st (.turn z z2) := rfl
  rw [e]
  refine tab_step (fun h => ?_) (fun i h => ?_)
  · unfold Vapktb.step Vapktb.look Vapktb.withTable
    simp only [h]
  · unfold Vapktb.step Vapktb.look Vapktb.withTable
    simp only [h]
    rfl
theorem st_14 (st : State) (z : Int) : VapktbNeutral.step st [(14 : Int) :: [z]] = aTab st 14 z 0 [] := by
  have e : VapktbNeutral.step st [(14 : Int) :: [z]] = Vapktb.step st (.small z) := rfl
  rw [e]
  refine tab_step (fun h => ?_) (fun i h => ?_)
  · unfold Vapktb.step Vapktb.withTable
    simp only [h]
  · unfold Vapktb.step Vapktb.withTable
    simp only [h]
    rfl
theorem st_15 (st : State) (z : Int) : VapktbNeutral.step st [(15 : Int) :: [z]] = aTab st 15 z 0 [] := by
  have e : VapktbNeutral.step st [(15 : Int) :: [z]] = Vapktb.step st (.apart z) := rfl
  rw [e]
  refine tab_step (fun h => ?_) (fun i h => ?_)
  · unfold Vapktb.step Vapktb.look Vapktb.withTable
    simp only [h]
  · unfold Vapktb.step Vapktb.look Vapktb.withTable
    simp only [h]
    rfl
theorem st_16 (st : State) (z z2 : Int) : VapktbNeutral.step st [(16 : Int) :: [z, z2]] = aTab st 16 z z2 [] := by
  have e : VapktbNeutral.step st [(16 : Int) :: [z, z2]] = Vapktb.step st (.why z z2) := rfl
  rw [e]
  refine tab_step (fun h => ?_) (fun i h => ?_)
  · unfold Vapktb.step Vapktb.onHeader Vapktb.look Vapktb.withTable
    simp only [h]
  · unfold Vapktb.step Vapktb.onHeader Vapktb.look Vapktb.withTable
    simp only [h]
    rfl
theorem st_17 (st : State) (z : Int) : VapktbNeutral.step st [(17 : Int) :: [z]] = aTab st 17 z 0 [] := by
  have e : VapktbNeutral.step st [(17 : Int) :: [z]] = Vapktb.step st (.counts z) := rfl
  rw [e]
  refine tab_step (fun h => ?_) (fun i h => ?_)
  · unfold Vapktb.step Vapktb.look Vapktb.withTable
    simp only [h]
  · unfold Vapktb.step Vapktb.look Vapktb.withTable
    simp only [h]
    rfl
theorem step_call {st : State} {c n k : Nat} {ns rs : List Int} (hs : PyVapktb.shape (c : Nat) = some (n, k)) (hc : c < 20) (hn : ns.length = n) (hk : k = 0 → rs = []) : VapktbNeutral.step st (((c : Int) :: ns) :: rowsOf k rs) = aCall st c ns rs := by
  rcases (show c = 0 ∨ c = 1 ∨ c = 2 ∨ c = 3 ∨ c = 4 ∨ c = 5 ∨ c = 6 ∨ c = 7 ∨ c = 8 ∨ c = 9 ∨ c = 10 ∨ c = 11 ∨ c = 12 ∨ c = 13 ∨ c = 14 ∨ c = 15 ∨ c = 16 ∨ c = 17 ∨ c = 18 ∨ c = 19 by omega) with rfl | rfl | rfl | rfl | rfl | rfl | rfl | rfl | rfl | rfl | rfl | rfl | rfl | rfl | rfl | rfl | rfl | rfl | rfl | rfl <;> cases hs
  · obtain ⟨z, rfl⟩ := len1 hn
    obtain rfl := hk rfl
    rfl
  · obtain ⟨z, rfl⟩ := len1 hn
    exact st_1 st z rs
  · obtain ⟨z, z2, rfl⟩ := len2 hn
    exact st_2 st z z2 rs
  · obtain ⟨z, z2, rfl⟩ := len2 hn
    obtain rfl := hk rfl
    exact st_3 st z z2
  · obtain ⟨z, rfl⟩ := len1 hn
    obtain rfl := hk rfl
    exact st_4 st z
  · obtain ⟨z, z2, rfl⟩ := len2 hn
    obtain rfl := hk rfl
    exact st_5 st z z2
  · obtain ⟨z, z2, rfl⟩ := len2 hn
    obtain rfl := hk rfl
    exact st_6 st z z2
  · obtain ⟨z, rfl⟩ := len1 hn
    obtain rfl := hk rfl
    exact st_7 st z
  · obtain ⟨z, z2, rfl⟩ := len2 hn
    obtain rfl := hk rfl
    exact st_8 st z z2
  · obtain ⟨z, z2, rfl⟩ := len2 hn
    obtain rfl := hk rfl
    exact st_9 st z z2
  · obtain ⟨z, z2, rfl⟩ := len2 hn
    exact st_10 st z z2 rs
  · obtain ⟨z, rfl⟩ := len1 hn
    obtain rfl := hk rfl
    exact st_11 st z
  · obtain ⟨z, rfl⟩ := len1 hn
    obtain rfl := hk rfl
    exact st_12 st z
  · obtain ⟨z, z2, rfl⟩ := len2 hn
    obtain rfl := hk rfl
    exact st_13 st z z2
  · obtain ⟨z, rfl⟩ := len1 hn
    obtain rfl := hk rfl
    exact st_14 st z
  · obtain ⟨z, rfl⟩ := len1 hn
    obtain rfl := hk rfl
    exact st_15 st z
  · obtain ⟨z, z2, rfl⟩ := len2 hn
    obtain rfl := hk rfl
    exact st_16 st z z2
  · obtain ⟨z, rfl⟩ := len1 hn
    obtain rfl := hk rfl
    exact st_17 st z
  · obtain rfl := len0 hn
    obtain rfl := hk rfl
    rfl
  · obtain rfl := len0 hn
    obtain rfl := hk rfl
    rfl
end Rt

/-! answers (printed by gen_r.py) -/
namespace Rt
open PySem PySem.Spec PyProof.Rows L2
open VapktBase (Rule Action Table Rewrite)
open Vapktb (State)
section
variable {C C2 : Addr} {H H' H0 : Hp} {D Tt R F ca : Addr} {st : State}
theorem TabAt.tupKeep {a : Addr} {t : Table} (s : TupStay H H') (e : ∀ o, H a = some o → H' a = some o) (h : TabAt H a t) : TabAt H' a t := LstAt.imp (fun b x q => rule_tups _ _ b x s q) (fun o z => e o z) h
theorem DeskAt.move (d : DeskAt C H D Tt st) (s : TupStay H H') (hD : ∀ o, H D = some o → H' D = some o) (hT : ∀ o, H Tt = some o → H' Tt = some o) (ha : ∀ a, TA H Tt a → ∀ o, H a = some o → H' a = some o) : DeskAt C H' D Tt st := by
  obtain ⟨dx, a0, a1, t0, t1, n, h0, h1, h2, h3, h4, h5, h6, h7, h8⟩ := d
  exact ⟨dx, a0, a1, t0, t1, n, h0, hD _ h1, hT _ h2, h3.tupKeep s (ha _ ⟨_, h2, List.mem_cons_self⟩), h4.tupKeep s (ha _ ⟨_, h2, List.mem_cons_of_mem _ List.mem_cons_self⟩), h5, h6, h7, h8⟩
theorem DeskAt.lst (d : DeskAt C H D Tt st) : ∃ l, H Tt = some (.lst l) := let ⟨_, _, _, _, _, _, _, _, h2, _⟩ := d; ⟨_, h2⟩
theorem DeskAt.ins (d : DeskAt C H D Tt st) : ∃ dx fs, H D = some (.ins C dx fs) := let ⟨_, _, _, _, _, _, _, h1, _⟩ := d; ⟨_, _, h1⟩
theorem DeskAt.ta (d : DeskAt C H D Tt st) {a : Addr} (h : TA H Tt a) : ∃ l, H a = some (.lst l) := by
  obtain ⟨dx, a0, a1, t0, t1, n, h0, h1, h2, ⟨as, h3, _⟩, ⟨bs, h4, _⟩, h5, h6, h7, h8⟩ := d
  obtain ⟨l, q1, q2⟩ := h
  rw [h2] at q1
  have q1 := HO.lst.inj (Option.some.inj q1)
  subst q1
  rcases List.mem_cons.mp q2 with q | q
  · rw [V.ref.inj q]; exact ⟨_, h3⟩
  · rw [V.ref.inj (List.mem_singleton.mp q)]; exact ⟨_, h4⟩
theorem DeskAt.keepR {fs : List (Str × V)} {dx : Addr} (d : DeskAt C H D Tt st) (hR : H R = some (.ins C2 dx fs)) (DR : D ≠ R) (k : Keep R H H') : DeskAt C H' D Tt st ∧ (∀ z, ¬ TA H Tt z → ¬ TA H' Tt z) := by
  obtain ⟨l, hl⟩ := d.lst
  have tR : Tt ≠ R := fun z => by rw [z, hR] at hl; cases hl
  refine ⟨d.move (stay_keep hR k) (fun o e => k _ _ e DR) (fun o e => k _ _ e tR) (fun a ha o e => ?_), fun z h ⟨l', q1, q2⟩ => ?_⟩
  · obtain ⟨l2, hl2⟩ := d.ta ha
    exact k _ _ e fun z => by rw [z, hR] at hl2; cases hl2
  · rw [k _ _ hl tR] at q1
    exact h ⟨l', hl.trans q1, q2⟩
theorem after_facts {out : List Int} {Tt' q : Addr} {i : Nat} {x : State} (A : After C H H' D Tt Tt' x) (d : DeskAt C H D Tt st) (cr : CrAt C2 H R ca i) (hF : H F = some (.lst (out.map V.int))) (s : Same H0 H) (DR : D ≠ R) (d0 : H0 D = none) (tt0 : H0 Tt = none) (TF : Tt ≠ F) (taF : ¬ TA H Tt F) (fq : H q = none) :
    DeskAt C H' D Tt' x ∧ CrAt C2 H' R ca i ∧ H' F = some (.lst (out.map V.int)) ∧ Same H0 H' ∧ H0 Tt' = none ∧ Tt' ≠ F ∧ ¬ TA H' Tt' F ∧ q ≠ F := by
  obtain ⟨l, hl⟩ := d.lst
  obtain ⟨dx, fs, hD⟩ := d.ins
  obtain ⟨dr, hR⟩ := cr
  refine ⟨A.dk, ⟨dr, A.kp _ _ hR (Ne.symm DR) (fun z => by rw [z, hl] at hR; cases hR)⟩, A.kp _ _ hF (fun z => by rw [z, hD] at hF; cases hF) (Ne.symm TF), fun b o e => ?_, ?_, ?_, ?_, ?_⟩
  · exact A.kp _ _ (s _ _ e) (ne_of_none e d0) (ne_of_none e tt0)
  · rcases A.tt with z | z
    · rw [z]; exact tt0
    · exact s.free z
  · rcases A.tt with z | z
    · rw [z]; exact TF
    · intro e
      rw [e, hF] at z
      cases z
  · exact A.nw F (fun z => by rw [hF] at z; cases z) taF
  · intro e
    rw [e, hF] at fq
    cases fq
theorem upd_facts {l : List V} {o : HO} {i : Nat} (d : DeskAt C H D Tt st) (cr : CrAt C2 H R ca i) (hF : H F = some (.lst l)) (s : Same H0 H) (f0 : H0 F = none) (TF : Tt ≠ F) (taF : ¬ TA H Tt F) :
    DeskAt C (upd H F o) D Tt st ∧ CrAt C2 (upd H F o) R ca i ∧ Same H0 (upd H F o) ∧ ¬ TA (upd H F o) Tt F := by
  obtain ⟨dx, fs, hD⟩ := d.ins
  obtain ⟨dr, hR⟩ := cr
  have DF : D ≠ F := fun z => by rw [z, hF] at hD; cases hD
  have RF : R ≠ F := fun z => by rw [z, hF] at hR; cases hR
  refine ⟨d.move (stay_lst hF) (fun o e => by rw [upd_ne DF]; exact e) (fun o e => by rw [upd_ne TF]; exact e) (fun a ha o e => ?_), ⟨dr, by rw [upd_ne RF]; exact hR⟩, fun b o e => ?_, fun ⟨l', q1, q2⟩ => ?_⟩
  · rw [upd_ne (fun z : a = F => taF (by rw [← z]; exact ha))]; exact e
  · rw [upd_ne (ne_of_none e f0)]; exact s _ _ e
  · rw [upd_ne TF] at q1
    exact taF ⟨l', q1, q2⟩
end
section
variable {P : Program} {w : World} {K : PySem.W.Frag} {mg : Str → Option Value} {base : Heap}
def ALoop (C C2 : Addr) (l : List Int) (H0 : Hp) (ca D R F : Addr) (m : Nat) (σ : L2.St) (H' : Hp) : Prop := ∃ (i : Nat) (st : State) (Tt : Addr) (f : Nat) (out : List Int) (cs : List (List (List Int))) (v4 v5 v6 v7 : Option V),
  m = l.length - i ∧ σ = [some (.ref ca), some (.ref D), some (.ref R), some (.ref F), v4, v5, v6, v7] ∧ i ≤ l.length ∧ PyFlat.calls PyVapktb.shape f (l.drop i) = some cs ∧ PyVapktb.answers l = out ++ PyFlat.told (PyFlat.played VapktbNeutral.step st cs) ∧
  DeskAt C H' D Tt st ∧ CrAt C2 H' R ca i ∧ H' F = some (.lst (out.map V.int)) ∧ Same H0 H' ∧ H0 Tt = none ∧ Tt ≠ F ∧ ¬ TA H' Tt F
def spAnswers (K : PySem.W.Frag) : Sp := fun vs H Q _ => ∃ (ca : Addr) (l : List Int), vs = [.ref ca] ∧ SqL K H ca (l.map V.int) ∧ PyVapktb.answers_asked l = true ∧ ∀ H' p, H' p = some (.lst ((PyVapktb.answers l).map V.int)) → Q (.ref p) H'
theorem asked_facts {l : List Int} (h : PyVapktb.answers_asked l = true) : ∃ cs, PyFlat.calls PyVapktb.shape l.length l = some cs ∧ PyVapktb.answers l = PyFlat.told (PyFlat.played VapktbNeutral.step VapktbNeutral.start cs) ∧ (PyVapktb.answers l).length ≤ 10000000 := by
  unfold PyVapktb.answers_asked at h
  have he : PyVapktb.answers l = match PyVapktb.calls l with | none => [] | some cs => PyFlat.told (PyFlat.played VapktbNeutral.step VapktbNeutral.start cs) := rfl
  rw [calls_eq] at he
  cases e : PyFlat.calls PyVapktb.shape l.length l with
  | none => rw [e] at h; cases h
  | some cs =>
    rw [e] at h he
    refine ⟨cs, rfl, he, ?_⟩
    have h : (!cs.isEmpty && PyFlat.atMost 100 cs && PyInside.calls PyVapktb.bound cs && VapktbNeutral.asked (cs.map PyVapktb.whole) && PyFlat.short 10000000 (PyVapktb.answers l)) = true := h
    have := (Bool.and_eq_true_iff.mp h).2
    exact of_decide_eq_true this
theorem take_at {l : List Int} {i : Nat} {z : Int} (h : l[i]? = some z) : (l.drop i).take 1 = [z] := by
  rw [drop_at h]
  rfl
theorem ok_answers (T : Txt K mg) : FnOk P w K mg base CX0 14 T.answers.f T.answers.fd ["calls"] (spAnswers K) := by
  refine T.answers.fn.ok sc_answers (fun vs H Q E h => ?_) (fun cdv A outer s H vs Q E hr h => ⟨_, (pss_cons (ps_set (i := 1) sc_answers.nd rfl (Or.inl rfl) (pe_make0 T.Desk_init.mkk (ok_Desk_init T) (hr.mono (by decide)) rfl T.gDesk T.Desk_init.bd .nil pass0))
      (pss_cons (ps_set (i := 2) sc_answers.nd rfl (Or.inl rfl) (pe_make T.CallReader_init.mkk (ok_CallReader_init T) (hr.mono (by decide)) rfl T.gCallReader T.CallReader_init.bd .nil pass0 (pa_cons (pv 0) pa_nil)))
      (pss_cons (ps_set (i := 3) sc_answers.nd rfl (Or.inl rfl) (pe_lst pa_nil))
      (pss_cons (ps_while PassesOwn.never (pt_not (pt_val (pe_meth0 (pv 2) T.kCallReader T.CallReader_is_done.me (ok_CallReader_is_done T) (hr.mono (by decide)) T.CallReader_is_done.bd .nil pass0))) (pss_cons (ps_set (i := 4) sc_answers.nd rfl (Or.inl rfl) (pe_ix ix_list (pe_meth (pv 2) T.kCallReader T.CallReader_next_some.me (ok_CallReader_next_some T) (hr.mono (by decide)) T.CallReader_next_some.bd .nil pass0 (pa_cons pe_int pa_nil)) pe_int (fun _ _ => rfl)))
      (pss_cons (ps_set (i := 5) sc_answers.nd rfl (Or.inl rfl) (pe_meth (pv 2) T.kCallReader T.CallReader_next_some.me (ok_CallReader_next_some T) (hr.mono (by decide)) T.CallReader_next_some.bd .nil pass0 (pa_cons (pe_ix ix_tup (pe_glob (v := .ref T.aNUMBERS) rfl T.gNUMBERS rfl) (pv 4) (fun _ _ => rfl)) pa_nil)))
      (pss_cons (ps_set (i := 6) sc_answers.nd rfl (Or.inl rfl) (pe_lst pa_nil))
      (pss_cons (ps_if (pt_cmpR op_gt (pe_ix ix_tup (pe_glob (v := .ref T.aROWS) rfl T.gROWS rfl) (pv 4) (fun _ _ => rfl)) pe_int (nomark _)) (pss_one (ps_set (i := 6) sc_answers.nd rfl (Or.inl rfl) (pe_meth (pv 2) T.kCallReader T.CallReader_next_some.me (ok_CallReader_next_some T) (hr.mono (by decide)) T.CallReader_next_some.bd .nil pass0 (pa_cons (pe_ix ix_list (pe_meth (pv 2) T.kCallReader T.CallReader_next_some.me (ok_CallReader_next_some T) (hr.mono (by decide)) T.CallReader_next_some.bd .nil pass0 (pa_cons pe_int pa_nil)) pe_int (fun _ _ => rfl)) pa_nil)))) pss_nil)
      (pss_cons (ps_set (i := 7) sc_answers.nd rfl (Or.inl rfl) (pe_call (ok_answer_of T) (hr.mono (by decide)) rfl T.answer_of.gl T.answer_of.kp T.answer_of.bd .nil pass0 (pa_cons (pv 1) (pa_cons (pv 4) (pa_cons (pv 5) (pa_cons (pv 6) pa_nil))))))
      (pss_cons (ps_expr (pe_bm PySem.F.plainAttrs_list PySem.F.slot_list_append PySem.F.type_list_append mt_append (pv 3) (pa_cons (pe_callB call_len_seq (by rfl) T.zlen PySem.boot_len (pa_cons (pv 7) pa_nil)) pa_nil)))
      (pss_one (ps_expr (pe_bm PySem.F.plainAttrs_list PySem.F.slot_list_extend PySem.F.type_list_extend mt_extend (pv 3) (pa_cons (pv 7) pa_nil)))))))))))
      (pss_one (ps_ret (pv 3))))))), ?_⟩)
  · obtain ⟨ca, l, rfl, _⟩ := h
    rfl
  · obtain ⟨ca, l, rfl, hS, hask, k⟩ := h
    obtain ⟨cs0, hcs0, hans0, hlen⟩ := asked_facts hask
    intro D dx nD nd ne
    have sD : Same H (upd (upd H dx (.own D)) D (.ins T.cDesk dx [])) := (snew nd).trans (snew (by rw [upd_ne ne.symm]; exact nD))
    refine ⟨D, dx, rfl, upd_same, fun H1 Tt nT dk1 k1 => ⟨rfl, ?_⟩⟩
    have s1 : Same H H1 := Same.made nD nd k1
    have tt0 : H Tt = none := sD.free nT
    refine ⟨_, rfl, fun R dr nR ndr ner => ?_⟩
    have sR : Same H1 (upd (upd H1 dr (.own R)) R (.ins T.cCallReader dr [])) := (snew ndr).trans (snew (by rw [upd_ne ner.symm]; exact nR))
    refine ⟨R, dr, ca, rfl, upd_same, fun H2 cr2 k2 => ⟨rfl, ?_⟩⟩
    have s2 : Same H1 H2 := Same.made nR ndr k2
    have s02 := s1.trans s2
    have r0 : H R = none := s1.free nR
    have DR : D ≠ R := fun z => by
      obtain ⟨_, _, hD⟩ := dk1.ins
      rw [z, nR] at hD
      cases hD
    refine ⟨(by show 0 ≤ sizeLine; decide), fun F nF => ?_⟩
    have sF := snew (o := .lst []) nF
    have f0 : H F = none := s02.free nF
    have dk2 := dk1.same s2
    have TF : Tt ≠ F := fun z => by
      obtain ⟨_, e⟩ := dk2.lst
      rw [z, nF] at e
      cases e
    have taF : ¬ TA (upd H2 F (.lst [])) Tt F := fun ⟨l', q1, q2⟩ => by
      rw [upd_ne TF] at q1
      obtain ⟨_, e⟩ := dk2.ta ⟨l', q1, q2⟩
      rw [nF] at e
      cases e
    have d0 := nD
    obtain ⟨drr, hRr⟩ := cr2
    refine ⟨ALoop T.cDesk T.cCallReader l H ca D R F, ⟨l.length - 0, 0, _, Tt, l.length, [], cs0, _, _, _, _, rfl, rfl, Nat.zero_le _, hcs0, hans0, dk2.same sF, ⟨drr, sF _ _ hRr⟩, upd_same, s02.trans sF, tt0, TF, taF⟩, ?_⟩
    rintro m σ H3 ⟨i, st, Tt, f, out, cs, v4, v5, v6, v7, rfl, rfl, hil, hcalls0, hans, dk3, ⟨dr3, hR3⟩, hF3, s3, tt0, TF, taF⟩
    refine ⟨_, rfl, R, dr3, _, rfl, hR3, cr_no, R, ca, i, l, rfl, ⟨dr3, hR3⟩, s3.seq hS, _, rfl, ?_⟩
    by_cases hi : l.length ≤ i
    · rw [decide_eq_true hi]
      refine ifF rfl ⟨_, rfl, k H3 F ?_⟩
      rw [calls_end hcalls0 hi] at hans
      have e : PyVapktb.answers l = out := hans.trans (List.append_nil out)
      rw [e]
      exact hF3
    · rw [decide_eq_false hi]
      have hi : i < l.length := by omega
      obtain ⟨c, n, k', ns, rs, j, f', cs', hs, hc20, hn, hk, h18, h2, ⟨hat, hin, hns, hrow⟩, hcs, hcalls⟩ := calls_step hcalls0 hi
      have hnl : ns.length = n := by rw [hns, List.length_take, List.length_drop]; omega
      refine ifT rfl ⟨fun σ' H' => ∃ m', m' < l.length - i ∧ ALoop T.cDesk T.cCallReader l H ca D R F m' σ' H', fun σ' H' z => z, ?_⟩
      have hRF : F ≠ R := fun z => by rw [z, hR3] at hF3; cases hF3
      -- call = reader.next_some(1)[0]
      refine ⟨_, rfl, R, dr3, _, rfl, hR3, cr_no, R, ca, i, 1, l, rfl, ⟨dr3, hR3⟩, s3.seq hS, hi, fun H4 p1 f1 cr4 k4 hp1 => ?_⟩
      rw [take_at hat] at hp1
      obtain ⟨dk4, ta4⟩ := dk3.keepR hR3 DR k4
      have taF4 := ta4 F taF
      have hF4 := k4 _ _ hF3 hRF
      have s4 : Same H H4 := Same.keep s3 r0 k4
      obtain ⟨dr4, hR4⟩ := cr4
      refine ⟨p1, _, _, _, rfl, rfl, SqL.of hp1, atI_nat (j := 0) rfl, ?_⟩
      -- numbers = reader.next_some(NUMBERS[call])
      refine ⟨_, rfl, R, dr4, _, rfl, hR4, cr_no, _, rfl, T.aNUMBERS, numbersV, _, _, rfl, rfl, T.tNUMBERS _, atI_nat hn, R, ca, i + 1, n, l, rfl, ⟨dr4, hR4⟩, s4.seq hS, hin, fun H5 p2 f2 cr5 k5 hp2 => ?_⟩
      rw [← hns] at hp2
      obtain ⟨dk5, ta5⟩ := dk4.keepR hR4 DR k5
      have taF5 := ta5 F taF4
      have hF5 := k5 _ _ hF4 hRF
      have s5 : Same H H5 := Same.keep s4 r0 k5
      obtain ⟨dr5, hR5⟩ := cr5
      -- row = []
      refine ⟨(by show 0 ≤ sizeLine; decide), fun p3 n3 => ?_⟩
      have sp3 := snew (o := .lst []) n3
      refine ⟨_, rfl, T.aROWS, rowsV, _, _, rfl, rfl, T.tROWS _, atI_nat hk, _, _, rfl, rfl, _, rfl, ?_⟩
      rcases hrow with ⟨rfl, rfl, rfl⟩ | ⟨rfl, m, hm, hml, hrs, rfl⟩
      · refine ifF rfl ?_
        have hk0 : (0 : Nat) = 0 → ([] : List Int) = [] := fun _ => rfl
        have dkZ := dk5.same sp3
        have crZ : CrAt T.cCallReader (upd H5 p3 (.lst [])) R ca (i + 1 + n) := ⟨dr5, sp3 _ _ hR5⟩
        have hFZ := sp3 _ _ hF5
        have sZ := s5.trans sp3
        have hp2Z := sp3 _ _ hp2
        have hjl := hin
        have taF : ¬ TA (upd H5 p3 (.lst [])) Tt F := fun ⟨l', q1, q2⟩ => by
          obtain ⟨l2, e⟩ := dk5.lst
          rw [sp3 _ _ e] at q1
          exact taF5 ⟨l', e.trans q1, q2⟩

        refine ⟨_, rfl, _, rfl, _, rfl, _, rfl, D, Tt, p2, p3, st, c, ns, [], rfl, dkZ, (SqL.of hp2Z), (SqL.of upd_same), hc20, ?_, ?_, fun H6 q Tt' fq A hq => ?_⟩
        · intro z
          rw [hnl]
          exact h18 z
        · intro z
          rw [hnl]
          exact h2 z
        obtain ⟨hD6, hR6, hF6, s06, tt6, ttF, nTA, qF⟩ := after_facts A dkZ crZ hFZ sZ DR d0 tt0 TF taF fq
        have ha : VapktbNeutral.step st (((c : Int) :: ns) :: rowsOf 0 []) = aCall st c ns [] := step_call hs hc20 hnl hk0
        generalize aCall st c ns [] = x at A hq ha hD6
        have htot : PyVapktb.answers l = (out ++ ((x.2.length : Int) :: x.2)) ++ PyFlat.told (PyFlat.played VapktbNeutral.step x.1 cs') := by
          rw [hans, hcs]
          show out ++ ((((VapktbNeutral.step st _).2.length : Nat) : Int) :: (VapktbNeutral.step st _).2 ++ PyFlat.told (PyFlat.played VapktbNeutral.step (VapktbNeutral.step st _).1 cs')) = _
          rw [ha, List.append_assoc]
        have hlenT := congrArg List.length htot
        rw [List.length_append, List.length_append, List.length_cons] at hlenT
        have big : (10000000 : Nat) < sizeLine := by decide
        refine ⟨_, rfl, .inl ⟨rfl, _, SqL.of hF6⟩, _, rfl, q, _, rfl, .inl (SqL.of hq), F, _, _, rfl, rfl, hF6, ?_, ?_⟩
        · rw [List.length_map]
          omega
        have hq7 : IntsAt (upd H6 F (.lst (out.map V.int ++ [.int ((x.2.map V.int).length : Nat)]))) q x.2 := by
          unfold IntsAt
          rw [upd_ne qF]
          exact hq
        refine ⟨_, rfl, .inl ⟨rfl, _, SqL.of upd_same⟩, _, rfl, F, q, _, _, rfl, rfl, upd_same, hq7, ?_, ?_⟩
        · rw [List.length_append, List.length_map, List.length_map]
          show _ + 1 + _ ≤ _
          omega
        rw [List.length_map]
        have e8 : upd (upd H6 F (.lst (out.map V.int ++ [.int (x.2.length : Nat)]))) F (.lst (out.map V.int ++ [.int (x.2.length : Nat)] ++ x.2.map V.int)) F = some (.lst ((out ++ ((x.2.length : Int) :: x.2)).map V.int)) := by
          rw [upd_same, List.map_append, List.append_assoc]
          rfl
        obtain ⟨dk8, cr8, s8, ta8⟩ := upd_facts (o := .lst (out.map V.int ++ [.int (x.2.length : Nat)])) hD6 hR6 hF6 s06 f0 ttF nTA
        have hF7 : upd H6 F (.lst (out.map V.int ++ [.int (x.2.length : Nat)])) F = some (.lst (out.map V.int ++ [.int (x.2.length : Nat)])) := upd_same
        obtain ⟨dk9, cr9, s9, ta9⟩ := upd_facts (o := .lst (out.map V.int ++ [.int (x.2.length : Nat)] ++ x.2.map V.int)) dk8 cr8 hF7 s8 f0 ttF ta8
        exact ⟨l.length - (i + 1 + n), by omega, i + 1 + n, x.1, Tt', f', _, cs', _, _, _, _, rfl, rfl, hjl, hcalls, htot, dk9, cr9, e8, s9, tt6, ttF, ta9⟩

      · refine ifT rfl ?_
        have s53 := s5.trans sp3
        have dk53 := dk5.same sp3
        have hR53 := sp3 _ _ hR5
        have hF53 := sp3 _ _ hF5
        have taF53 : ¬ TA (upd H5 p3 (.lst [])) Tt F := fun ⟨l', q1, q2⟩ => by
          obtain ⟨l2, e⟩ := dk5.lst
          rw [sp3 _ _ e] at q1
          exact taF5 ⟨l', e.trans q1, q2⟩
        have hp253 := sp3 _ _ hp2
        generalize upd H5 p3 (.lst []) = H53 at s53 dk53 hR53 hF53 taF53 hp253
        refine ⟨_, rfl, R, dr5, _, rfl, hR53, cr_no, _, rfl, R, dr5, _, rfl, hR53, cr_no, R, ca, i + 1 + n, 1, l, rfl, ⟨dr5, hR53⟩, s53.seq hS, by omega, fun H6 p4 f4 cr6 k6 hp4 => ?_⟩
        rw [take_at hm] at hp4
        obtain ⟨dk6, ta6⟩ := dk53.keepR hR53 DR k6
        have taF6 := ta6 F taF53
        have hF6 := k6 _ _ hF53 hRF
        have s6 : Same H H6 := Same.keep s53 r0 k6
        obtain ⟨dr6, hR6⟩ := cr6
        have p2R : p2 ≠ R := fun z => by
          have hp2 : H5 p2 = some (.lst (ns.map V.int)) := hp2
          rw [z, hR5] at hp2
          cases hp2
        have hp26 := k6 _ _ hp253 p2R
        refine ⟨p4, _, _, _, rfl, rfl, SqL.of hp4, atI_nat (j := 0) rfl, R, ca, i + 1 + n + 1, m, l, rfl, ⟨dr6, hR6⟩, s6.seq hS, hml, fun H7 p5 f5 cr7 k7 hp5 => ?_⟩
        rw [← hrs] at hp5
        obtain ⟨dkZ, ta7⟩ := dk6.keepR hR6 DR k7
        have taF := ta7 F taF6
        have hFZ := k7 _ _ hF6 hRF
        have sZ : Same H H7 := Same.keep s6 r0 k7
        have crZ := cr7
        have hp2Z := k7 _ _ hp26 p2R
        have hk0 : (1 : Nat) = 0 → rs = [] := fun z => absurd z (by decide)
        have hjl := hml

        refine ⟨_, rfl, _, rfl, _, rfl, _, rfl, D, Tt, p2, p5, st, c, ns, rs, rfl, dkZ, (SqL.of hp2Z), (SqL.of hp5), hc20, ?_, ?_, fun H6 q Tt' fq A hq => ?_⟩
        · intro z
          rw [hnl]
          exact h18 z
        · intro z
          rw [hnl]
          exact h2 z
        obtain ⟨hD6, hR6, hF6, s06, tt6, ttF, nTA, qF⟩ := after_facts A dkZ crZ hFZ sZ DR d0 tt0 TF taF fq
        have ha : VapktbNeutral.step st (((c : Int) :: ns) :: rowsOf 1 rs) = aCall st c ns rs := step_call hs hc20 hnl hk0
        generalize aCall st c ns rs = x at A hq ha hD6
        have htot : PyVapktb.answers l = (out ++ ((x.2.length : Int) :: x.2)) ++ PyFlat.told (PyFlat.played VapktbNeutral.step x.1 cs') := by
          rw [hans, hcs]
          show out ++ ((((VapktbNeutral.step st _).2.length : Nat) : Int) :: (VapktbNeutral.step st _).2 ++ PyFlat.told (PyFlat.played VapktbNeutral.step (VapktbNeutral.step st _).1 cs')) = _
          rw [ha, List.append_assoc]
        have hlenT := congrArg List.length htot
        rw [List.length_append, List.length_append, List.length_cons] at hlenT
        have big : (10000000 : Nat) < sizeLine := by decide
        refine ⟨_, rfl, .inl ⟨rfl, _, SqL.of hF6⟩, _, rfl, q, _, rfl, .inl (SqL.of hq), F, _, _, rfl, rfl, hF6, ?_, ?_⟩
        · rw [List.length_map]
          omega
        have hq7 : IntsAt (upd H6 F (.lst (out.map V.int ++ [.int ((x.2.map V.int).length : Nat)]))) q x.2 := by
          unfold IntsAt
          rw [upd_ne qF]
          exact hq
        refine ⟨_, rfl, .inl ⟨rfl, _, SqL.of upd_same⟩, _, rfl, F, q, _, _, rfl, rfl, upd_same, hq7, ?_, ?_⟩
        · rw [List.length_append, List.length_map, List.length_map]
          show _ + 1 + _ ≤ _
          omega
        rw [List.length_map]
        have e8 : upd (upd H6 F (.lst (out.map V.int ++ [.int (x.2.length : Nat)]))) F (.lst (out.map V.int ++ [.int (x.2.length : Nat)] ++ x.2.map V.int)) F = some (.lst ((out ++ ((x.2.length : Int) :: x.2)).map V.int)) := by
          rw [upd_same, List.map_append, List.append_assoc]
          rfl
        obtain ⟨dk8, cr8, s8, ta8⟩ := upd_facts (o := .lst (out.map V.int ++ [.int (x.2.length : Nat)])) hD6 hR6 hF6 s06 f0 ttF nTA
        have hF7 : upd H6 F (.lst (out.map V.int ++ [.int (x.2.length : Nat)])) F = some (.lst (out.map V.int ++ [.int (x.2.length : Nat)])) := upd_same
        obtain ⟨dk9, cr9, s9, ta9⟩ := upd_facts (o := .lst (out.map V.int ++ [.int (x.2.length : Nat)] ++ x.2.map V.int)) dk8 cr8 hF7 s8 f0 ttF ta8
        exact ⟨l.length - (i + 1 + n + 1 + m), by omega, i + 1 + n + 1 + m, x.1, Tt', f', _, cs', _, _, _, _, rfl, rfl, hjl, hcalls, htot, dk9, cr9, e8, s9, tt6, ttF, ta9⟩

end
end Rt

/-! from what the top leaves to the facts of Txt -/
namespace Rt
open PySem PySem.Spec PyProof.Rows L2
section
variable {K : PySem.W.Frag} {h : Heap} {mg : Str → Option Value} {goal : Prop}
theorem w_def {x : Str} {st : Stmt} {ps : List Str} {f : Addr} {oc : Value} {od an : Option Addr} {sl : Array (Option Value)} {kV dc pm cd ct : Value} (X : K.In h) (G : h.Ns mainGlobals mg)
    (b : ∀ (kV doc pm : Value) (an : Option Addr) (cdv ct : Value) (us : List Value), us.length = ps.length → bindArgs (PySem.W.fnOf x x (defArgs st) (defBody st) (defScope st) .none kV doc pm an cdv ct) ⟨us, []⟩ = pure (ps.zip us))
    (a : PySem.W.nsIn K mainGlobals x = some (some (.ref f))) (l : K.lookup f = some ⟨oc, od, .func (PySem.W.fnOf x x (defArgs st) (defBody st) (defScope st) .none kV dc pm an cd ct), sl⟩) (c : PySem.W.codeIn K cd x = true) (k : PySem.W.keepIn K (.ref f) = true)
    (next : Def K mg x st ps → goal) : goal := by
  have F := fun_mk (st := st) l c k
  exact next ⟨f, _, F, F.binds b, PySem.W.mg_of X G a⟩
theorem w_mth {C : Addr} {m qual : Str} {st : Stmt} {ps : List Str} {f : Addr} {oc : Value} {od an : Option Addr} {sl : Array (Option Value)} {kV dc pm cd ct : Value} (kC : Cls K C)
    (b : ∀ (kV doc pm : Value) (an : Option Addr) (cdv ct : Value) (us : List Value), us.length = ps.length → bindArgs (PySem.W.fnOf m qual (defArgs st) (defBody st) (defScope st) .none kV doc pm an cdv ct) ⟨us, []⟩ = pure (ps.zip us))
    (a : PySem.W.findIn K (.ref C) m = some (some (.ref f))) (i : PySem.W.isFn K (.ref f) = true) (l : K.lookup f = some ⟨oc, od, .func (PySem.W.fnOf m qual (defArgs st) (defBody st) (defScope st) .none kV dc pm an cd ct), sl⟩) (c : PySem.W.codeIn K cd qual = true) (k : PySem.W.keepIn K (.ref f) = true)
    (next : Mth K C m qual st ps → goal) : goal := by
  have F := fun_mk (st := st) l c k
  exact next ⟨f, _, F, F.binds b, ⟨a, i, k⟩⟩
theorem w_ini {C : Addr} {qual : Str} {st : Stmt} {ps : List Str} {f : Addr} {oc : Value} {od an : Option Addr} {sl : Array (Option Value)} {kV dc pm cd ct : Value} (kC : Cls K C)
    (b : ∀ (kV doc pm : Value) (an : Option Addr) (cdv ct : Value) (us : List Value), us.length = ps.length → bindArgs (PySem.W.fnOf "__init__" qual (defArgs st) (defBody st) (defScope st) .none kV doc pm an cdv ct) ⟨us, []⟩ = pure (ps.zip us))
    (mk : PySem.W.makesIn K C = true) (a : PySem.W.findIn K (.ref C) "__init__" = some (some (.ref f))) (i : PySem.W.isFn K (.ref f) = true) (l : K.lookup f = some ⟨oc, od, .func (PySem.W.fnOf "__init__" qual (defArgs st) (defBody st) (defScope st) .none kV dc pm an cd ct), sl⟩)
    (c : PySem.W.codeIn K cd qual = true) (k : PySem.W.keepIn K (.ref f) = true) (kc : PySem.W.keepIn K (.ref C) = true)
    (next : Ini K C qual st ps → goal) : goal := by
  have F := fun_mk (st := st) l c k
  exact next ⟨f, _, F, F.binds b, ⟨mk, a, i, kc⟩⟩
theorem w_cls {x : Str} {C : Addr} (X : K.In h) (G : h.Ns mainGlobals mg) (a : PySem.W.nsIn K mainGlobals x = some (some (.ref C))) (pg : PySem.W.plainGet K C Str.empty = true) (hd : PySem.W.hasDictIn K C = true) (po : PySem.W.plainOver K C = true)
    (sa : PySem.W.findIn K (.ref C) "__setattr__" = some (some (.builtin "object.__setattr__"))) (next : mg x = some (.ref C) → Cls K C → goal) : goal := next (PySem.W.mg_of X G a) ⟨pg, hd, po, sa⟩
theorem w_no {C : Addr} {f : Str} (kC : Cls K C) (a : PySem.W.findIn K (.ref C) f = some none) (next : NoAttr K C f → goal) : goal := next a
theorem w_int {x : Str} {i : Int} {t : Tok} (X : K.In h) (G : h.Ns mainGlobals mg) (a : PySem.W.nsIn K mainGlobals x = some (some (.int i t))) (next : GI mg x i → goal) : goal := next ⟨t, PySem.W.mg_of X G a⟩
theorem w_none {x : Str} (X : K.In h) (G : h.Ns mainGlobals mg) (a : PySem.W.nsIn K mainGlobals x = some none) (next : mg x = none → goal) : goal := next (PySem.W.mg_none_of X G a)
def intOf : Value → Option Int
  | .int i _ => some i
  | _ => none
theorem vals_int : ∀ {us : List Value} {ns : List Int}, us.map intOf = ns.map some → Vals (ns.map V.int) us
  | [], [], _ => .nil
  | [], _ :: _, h => by cases h
  | _ :: _, [], h => by cases h
  | u :: us, n :: ns, h => by
    obtain ⟨h1, h2⟩ := List.cons.inj h
    refine .cons ?_ (vals_int h2)
    cases u <;> try (cases h1; done)
    case int i t =>
      cases h1
      exact ⟨t, rfl⟩
theorem w_tup {x : Str} {a : Addr} {od : Option Addr} {its : Array Value} {n : Nat} {sl : Array (Option Value)} {ns : List Int} (X : K.In h) (G : h.Ns mainGlobals mg) (e : PySem.W.nsIn K mainGlobals x = some (some (.ref a)))
    (l : K.lookup a = some ⟨.type "tuple", od, .seq its n, sl⟩) (v : its.toList.map intOf = ns.map some) (hl : ns.length ≤ 1000) (next : mg x = some (.ref a) → (∀ H : Hp, SqT K H a (ns.map V.int)) → goal) : goal := by
  refine next (PySem.W.mg_of X G e) fun H => .inr ⟨_, its, n, l, rfl, rfl, ?_, vals_int v⟩
  have := congrArg List.length v
  rw [List.length_map, List.length_map, Array.length_toList] at this
  exact Nat.le_of_lt (small1000 (by omega))
theorem exm_gen {A S : Addr} {b : Bool} (h1 : PySem.W.subIn K (.ref S) (.type "BaseException") = some true) (h2 : PySem.W.isClsIn K S = true) (h3 : PySem.W.typeIn K (.ref S) = some (.type "type")) (h4 : PySem.W.subIn K (.ref A) (.ref S) = some b) :
    PySem.W.exmOne K (.ref A) (.ref S) = some b := by
  have e1 : (PySem.W.subIn K (.ref S) (.type "BaseException") == some true) = true := by rw [h1] <;> rfl
  have e2 : ((PySem.W.clsIn K S).isSome && PySem.W.typeIn K (.ref S) == some (.type "type")) = true := by
    have h2' : (PySem.W.clsIn K S).isSome = true := h2
    rw [h2', h3] <;> rfl
  show (if (PySem.W.subIn K (.ref S) (.type "BaseException") == some true) = true then (if ((PySem.W.clsIn K S).isSome && PySem.W.typeIn K (.ref S) == some (.type "type")) = true then PySem.W.subIn K (.ref A) (.ref S) else none) else none) = some b
  rw [if_pos e1, if_pos e2]
  exact h4
theorem w_low {C f1 : Addr} {nm q : Str} {N : Addr} {bs : List Value} {sn : List Str} {sub : List Value} {ab : Bool} {col : Option Bool} {dd : Option Addr} {m0 m1 m2 m3 m5 : Option Value} {od1 an1 : Option Addr} {sl1 : Array (Option Value)} {oc1 dc1 pm1 cd1 ct1 : Value}
    (X : K.In h) (G : h.Ns mainGlobals mg) (aC : PySem.W.nsIn K mainGlobals "Refused" = some (some (.ref C)))
    (xL : K.lookup C = some (excClassObj nm q C N bs [.type "ValueError", .type "Exception", .type "BaseException", .type "object"] true sn sub ab col dd m0 m1 m2 m3 m5 "ValueError.__new__"))
    (sa : PySem.W.findIn K (.ref C) "__setattr__" = some (some (.builtin "object.__setattr__"))) (ga : PySem.W.findIn K (.ref C) "__getattribute__" = some (some (.builtin "BaseException.__getattribute__"))) (gg : PySem.W.findIn K (.ref C) "__getattr__" = some none) (nb : PySem.W.findIn K (.ref C) "why" = some none)
    (a1 : PySem.W.findIn K (.ref C) "__init__" = some (some (.ref f1))) (t1 : PySem.W.typeIn K (.ref f1) = some (.type "function"))
    (l1 : K.lookup f1 = some ⟨oc1, od1, .func (PySem.W.fnOf "__init__" "Refused.__init__" (PySem.LowX.iA ⟨170, 17, 170, 21⟩ ⟨170, 23, 170, 26⟩) (PySem.LowX.iB ⟨171, 8, 171, 12⟩ ⟨171, 8, 171, 16⟩ ⟨171, 19, 171, 22⟩ ⟨171, 8, 171, 22⟩) PySem.LowX.iS .none .none dc1 pm1 an1 cd1 ct1), sl1⟩) (c1 : PySem.W.codeIn K cd1 "Refused.__init__" = true)
    (kC : PySem.W.keepIn K (.ref C) = true) (eC : PySem.W.subIn K (.ref C) (.type "BaseException") = some true) (tC : PySem.W.typeIn K (.ref C) = some (.type "type")) (hC : PySem.W.hasDictIn K C = true) (iC : PySem.W.isClsIn K C = true) (sC : PySem.W.subIn K (.ref C) (.ref C) = some true)
    (next : PySem.LowX.LowTxt K mg C f1 → PySem.W.subIn K (.ref C) (.type "BaseException") = some true → PySem.W.isClsIn K C = true → PySem.W.typeIn K (.ref C) = some (.type "type") → goal) : goal := by
  refine next ?_ eC iC tC
  exact { gC := PySem.W.mg_of X G aC, cls := ⟨nm, q, N, bs, _, sn, sub, ab, col, dd, m0, m1, m2, m3, m5, xL, by decide +kernel⟩, sa := sa, ga := ga, gg := gg, noN := nb, iC := a1, tC := t1, kC := kC, exC := eC, tyC := tC, hdC := hC, te := exm_gen eC iC tC sC, fn := ⟨_, _, _, _, _, _, _, _, _, _, _, _, _, _, l1, c1⟩ }
theorem w_nr {CF : Addr} (X : K.In h) (G : h.Ns mainGlobals mg) (a : PySem.W.nsIn K mainGlobals "NotRight" = some (some (.ref CF))) (xF : PySem.W.excIn K CF [.type "ValueError", .type "Exception", .type "BaseException", .type "object"] "ValueError.__new__" = true) (kF : PySem.W.keepIn K (.ref CF) = true)
    (bF : PySem.W.subIn K (.ref CF) (.type "BaseException") = some true) (tF : PySem.W.typeIn K (.ref CF) = some (.type "type")) (iF : PySem.W.isClsIn K CF = true) (sF : PySem.W.subIn K (.ref CF) (.ref CF) = some true)
    (next : mg "NotRight" = some (.ref CF) → PySem.W.excIn K CF [.type "ValueError", .type "Exception", .type "BaseException", .type "object"] "ValueError.__new__" = true → PySem.W.keepIn K (.ref CF) = true → PySem.W.subIn K (.ref CF) (.type "BaseException") = some true → PySem.W.typeIn K (.ref CF) = some (.type "type") →
      PySem.W.exmOne K (.ref CF) (.ref CF) = some true → goal) : goal := next (PySem.W.mg_of X G a) xF kF bF tF (exm_gen bF iF tF sF)
theorem w_rnr {C f1 CF : Addr} (low : PySem.LowX.LowTxt K mg C f1) (e : PySem.W.subIn K (.ref C) (.type "BaseException") = some true) (i : PySem.W.isClsIn K C = true) (t : PySem.W.typeIn K (.ref C) = some (.type "type")) (kF : PySem.W.keepIn K (.ref CF) = true)
    (a : PySem.W.subIn K (.ref CF) (.ref C) = some false) (next : PySem.W.exmOne K (.ref CF) (.ref C) = some false → goal) : goal := next (exm_gen e i t a)
theorem fin {P : Program} {w : World} {fa : Addr} (T : Txt K mg) (hfa : mg "answers" = some (.ref fa)) : ∃ fd : FuncData, (∀ (s : Shared) (us : List Value), us.length = (["calls"] : List Str).length → BindsTo s fd ⟨us, []⟩ ((["calls"] : List Str).zip us)) ∧
    ∀ base : Heap, K.In base → base.Ns mainGlobals mg → FnOk P w K mg base CX0 14 fa fd ["calls"] (spAnswers K) := by
  have e := hfa.symm.trans T.answers.gl
  cases e
  refine ⟨T.answers.fd, fun s us hu => ?_, fun base _ _ => ok_answers T⟩
  obtain ⟨oc, od, kV, doc, pm, an, cdv, ct, osl, ef, lk, hcd⟩ := T.answers.fn.ex
  rw [ef]
  match us, hu with
  | [_], _ => exact .of_eq rfl
end
end Rt

open PySem PySem.W PyProof.Rows
set_option maxRecDepth 100000 in
set_option maxHeartbeats 0 in
theorem PySem.Challenge.cw_ruletablesdesk_s01_answers_holds : PySem.Challenge.rw_ruletablesdesk_s01_answers.Holds := by
  w_on; k_headS; (case hw => exact ⟨[.list [.int 18]], by decide +kernel, by decide +kernel⟩)
  k_fillS
  refine L2.walk_specK (r := PySem.Challenge.rw_ruletablesdesk_s01_answers) (k := 14) (CX := L2.CX0) (ps := ["calls"]) (sp := Rt.spAnswers) (by decide +kernel) rfl rfl ⟨rfl, by decide, by decide⟩ (fun w h Y => PySem.W.kIn_of Y) ?F ?S (fun _ _ _ _ z => z)
  case F =>
    intro w mg fa h Y KX G hmg
    refine' Rt.w_cls (x := "Reader") KX G ?a_1 ?pg_1 ?hd_1 ?po_1 ?sa_1 ?next_1
    (case a_1 => k_is)
    (case pg_1 => k_is)
    (case hd_1 => k_is)
    (case po_1 => k_is)
    (case sa_1 => k_is)
    intro gReader kReader
    refine' Rt.w_cls (x := "Desk") KX G ?a_2 ?pg_2 ?hd_2 ?po_2 ?sa_2 ?next_2
    (case a_2 => k_is)
    (case pg_2 => k_is)
    (case hd_2 => k_is)
    (case po_2 => k_is)
    (case sa_2 => k_is)
    intro gDesk kDesk
    refine' Rt.w_cls (x := "CallReader") KX G ?a_3 ?pg_3 ?hd_3 ?po_3 ?sa_3 ?next_3
    (case a_3 => k_is)
    (case pg_3 => k_is)
    (case hd_3 => k_is)
    (case po_3 => k_is)
    (case sa_3 => k_is)
    intro gCallReader kCallReader
    refine' Rt.w_no (f := "numbers") kReader ?a_4 ?next_4
    (case a_4 => k_is)
    intro nReader_numbers
    refine' Rt.w_no (f := "at") kReader ?a_5 ?next_5
    (case a_5 => k_is)
    intro nReader_at
    refine' Rt.w_no (f := "bits") kReader ?a_6 ?next_6
    (case a_6 => k_is)
    intro nReader_bits
    refine' Rt.w_no (f := "bits") kDesk ?a_7 ?next_7
    (case a_7 => k_is)
    intro nDesk_bits
    refine' Rt.w_no (f := "tables") kDesk ?a_8 ?next_8
    (case a_8 => k_is)
    intro nDesk_tables
    refine' Rt.w_no (f := "calls") kCallReader ?a_9 ?next_9
    (case a_9 => k_is)
    intro nCallReader_calls
    refine' Rt.w_no (f := "at") kCallReader ?a_10 ?next_10
    (case a_10 => k_is)
    intro nCallReader_at
    refine' Rt.w_def (x := "need") (st := Rt.s_need) (ps := ["truth"]) KX G (fun _ _ _ _ _ _ us hl => match us, hl with | [_], _ => rfl) ?a_11 ?l_11 ?c_11 ?k_11 ?next_11
    (case a_11 => k_is)
    (case l_11 => k_is)
    (case c_11 => k_is)
    (case k_11 => k_is)
    intro d_need
    refine' Rt.w_ini (qual := "Reader.__init__") (st := Rt.s_Reader_init) (ps := ["self", "numbers", "bits"]) kReader (fun _ _ _ _ _ _ us hl => match us, hl with | [_, _, _], _ => rfl) ?mk_12 ?a_12 ?i_12 ?l_12 ?c_12 ?k_12 ?kc_12 ?next_12
    (case mk_12 => k_is)
    (case a_12 => k_is)
    (case i_12 => k_is)
    (case l_12 => k_is)
    (case c_12 => k_is)
    (case k_12 => k_is)
    (case kc_12 => k_is)
    intro d_Reader_init
    refine' Rt.w_mth (m := "take") (qual := "Reader.take") (st := Rt.s_Reader_take) (ps := ["self", "most"]) kReader (fun _ _ _ _ _ _ us hl => match us, hl with | [_, _], _ => rfl) ?a_13 ?i_13 ?l_13 ?c_13 ?k_13 ?next_13
    (case a_13 => k_is)
    (case i_13 => k_is)
    (case l_13 => k_is)
    (case c_13 => k_is)
    (case k_13 => k_is)
    intro d_Reader_take
    refine' Rt.w_mth (m := "look_at_end") (qual := "Reader.look_at_end") (st := Rt.s_Reader_look_at_end) (ps := ["self"]) kReader (fun _ _ _ _ _ _ us hl => match us, hl with | [_], _ => rfl) ?a_14 ?i_14 ?l_14 ?c_14 ?k_14 ?next_14
    (case a_14 => k_is)
    (case i_14 => k_is)
    (case l_14 => k_is)
    (case c_14 => k_is)
    (case k_14 => k_is)
    intro d_Reader_look_at_end
    refine' Rt.w_mth (m := "pattern") (qual := "Reader.pattern") (st := Rt.s_Reader_pattern) (ps := ["self"]) kReader (fun _ _ _ _ _ _ us hl => match us, hl with | [_], _ => rfl) ?a_15 ?i_15 ?l_15 ?c_15 ?k_15 ?next_15
    (case a_15 => k_is)
    (case i_15 => k_is)
    (case l_15 => k_is)
    (case c_15 => k_is)
    (case k_15 => k_is)
    intro d_Reader_pattern
    refine' Rt.w_mth (m := "rule") (qual := "Reader.rule") (st := Rt.s_Reader_rule) (ps := ["self"]) kReader (fun _ _ _ _ _ _ us hl => match us, hl with | [_], _ => rfl) ?a_16 ?i_16 ?l_16 ?c_16 ?k_16 ?next_16
    (case a_16 => k_is)
    (case i_16 => k_is)
    (case l_16 => k_is)
    (case c_16 => k_is)
    (case k_16 => k_is)
    intro d_Reader_rule
    refine' Rt.w_def (x := "table_of") (st := Rt.s_table_of) (ps := ["numbers", "bits"]) KX G (fun _ _ _ _ _ _ us hl => match us, hl with | [_, _], _ => rfl) ?a_17 ?l_17 ?c_17 ?k_17 ?next_17
    (case a_17 => k_is)
    (case l_17 => k_is)
    (case c_17 => k_is)
    (case k_17 => k_is)
    intro d_table_of
    refine' Rt.w_def (x := "rule_of") (st := Rt.s_rule_of) (ps := ["numbers", "bits"]) KX G (fun _ _ _ _ _ _ us hl => match us, hl with | [_, _], _ => rfl) ?a_18 ?l_18 ?c_18 ?k_18 ?next_18
    (case a_18 => k_is)
    (case l_18 => k_is)
    (case c_18 => k_is)
    (case k_18 => k_is)
    intro d_rule_of
    refine' Rt.w_def (x := "patterns_in") (st := Rt.s_patterns_in) (ps := ["numbers", "bits"]) KX G (fun _ _ _ _ _ _ us hl => match us, hl with | [_, _], _ => rfl) ?a_19 ?l_19 ?c_19 ?k_19 ?next_19
    (case a_19 => k_is)
    (case l_19 => k_is)
    (case c_19 => k_is)
    (case k_19 => k_is)
    intro d_patterns_in
    refine' Rt.w_def (x := "matches") (st := Rt.s_matchesD) (ps := ["header", "pattern"]) KX G (fun _ _ _ _ _ _ us hl => match us, hl with | [_, _], _ => rfl) ?a_20 ?l_20 ?c_20 ?k_20 ?next_20
    (case a_20 => k_is)
    (case l_20 => k_is)
    (case c_20 => k_is)
    (case k_20 => k_is)
    intro d_matchesD
    refine' Rt.w_def (x := "counting") (st := Rt.s_counting) (ps := ["table", "header"]) KX G (fun _ _ _ _ _ _ us hl => match us, hl with | [_, _], _ => rfl) ?a_21 ?l_21 ?c_21 ?k_21 ?next_21
    (case a_21 => k_is)
    (case l_21 => k_is)
    (case c_21 => k_is)
    (case k_21 => k_is)
    intro d_counting
    refine' Rt.w_def (x := "outcome") (st := Rt.s_outcome) (ps := ["table", "header"]) KX G (fun _ _ _ _ _ _ us hl => match us, hl with | [_, _], _ => rfl) ?a_22 ?l_22 ?c_22 ?k_22 ?next_22
    (case a_22 => k_is)
    (case l_22 => k_is)
    (case c_22 => k_is)
    (case k_22 => k_is)
    intro d_outcome
    refine' Rt.w_def (x := "outcomes") (st := Rt.s_outcomes) (ps := ["table", "bits"]) KX G (fun _ _ _ _ _ _ us hl => match us, hl with | [_, _], _ => rfl) ?a_23 ?l_23 ?c_23 ?k_23 ?next_23
    (case a_23 => k_is)
    (case l_23 => k_is)
    (case c_23 => k_is)
    (case k_23 => k_is)
    intro d_outcomes
    refine' Rt.w_def (x := "set_patterns") (st := Rt.s_set_patterns) (ps := ["headers", "bits"]) KX G (fun _ _ _ _ _ _ us hl => match us, hl with | [_, _], _ => rfl) ?a_24 ?l_24 ?c_24 ?k_24 ?next_24
    (case a_24 => k_is)
    (case l_24 => k_is)
    (case c_24 => k_is)
    (case k_24 => k_is)
    intro d_set_patterns
    refine' Rt.w_def (x := "own_headers") (st := Rt.s_own_headers) (ps := ["table", "number", "bits"]) KX G (fun _ _ _ _ _ _ us hl => match us, hl with | [_, _, _], _ => rfl) ?a_25 ?l_25 ?c_25 ?k_25 ?next_25
    (case a_25 => k_is)
    (case l_25 => k_is)
    (case c_25 => k_is)
    (case k_25 => k_is)
    intro d_own_headers
    refine' Rt.w_def (x := "rule_numbers") (st := Rt.s_rule_numbers) (ps := ["rule"]) KX G (fun _ _ _ _ _ _ us hl => match us, hl with | [_], _ => rfl) ?a_26 ?l_26 ?c_26 ?k_26 ?next_26
    (case a_26 => k_is)
    (case l_26 => k_is)
    (case c_26 => k_is)
    (case k_26 => k_is)
    intro d_rule_numbers
    refine' Rt.w_def (x := "table_numbers") (st := Rt.s_table_numbers) (ps := ["table"]) KX G (fun _ _ _ _ _ _ us hl => match us, hl with | [_], _ => rfl) ?a_27 ?l_27 ?c_27 ?k_27 ?next_27
    (case a_27 => k_is)
    (case l_27 => k_is)
    (case c_27 => k_is)
    (case k_27 => k_is)
    intro d_table_numbers
    refine' Rt.w_def (x := "set_numbers") (st := Rt.s_set_numbers) (ps := ["headers", "bits"]) KX G (fun _ _ _ _ _ _ us hl => match us, hl with | [_, _], _ => rfl) ?a_28 ?l_28 ?c_28 ?k_28 ?next_28
    (case a_28 => k_is)
    (case l_28 => k_is)
    (case c_28 => k_is)
    (case k_28 => k_is)
    intro d_set_numbers
    refine' Rt.w_def (x := "without") (st := Rt.s_without) (ps := ["table", "number"]) KX G (fun _ _ _ _ _ _ us hl => match us, hl with | [_, _], _ => rfl) ?a_29 ?l_29 ?c_29 ?k_29 ?next_29
    (case a_29 => k_is)
    (case l_29 => k_is)
    (case c_29 => k_is)
    (case k_29 => k_is)
    intro d_without
    refine' Rt.w_def (x := "spare_rules") (st := Rt.s_spare_rules) (ps := ["table", "bits"]) KX G (fun _ _ _ _ _ _ us hl => match us, hl with | [_, _], _ => rfl) ?a_30 ?l_30 ?c_30 ?k_30 ?next_30
    (case a_30 => k_is)
    (case l_30 => k_is)
    (case c_30 => k_is)
    (case k_30 => k_is)
    intro d_spare_rules
    refine' Rt.w_def (x := "exchanged") (st := Rt.s_exchanged) (ps := ["table", "number"]) KX G (fun _ _ _ _ _ _ us hl => match us, hl with | [_, _], _ => rfl) ?a_31 ?l_31 ?c_31 ?k_31 ?next_31
    (case a_31 => k_is)
    (case l_31 => k_is)
    (case c_31 => k_is)
    (case k_31 => k_is)
    intro d_exchanged
    refine' Rt.w_def (x := "is_one_bit") (st := Rt.s_is_one_bit) (ps := ["number"]) KX G (fun _ _ _ _ _ _ us hl => match us, hl with | [_], _ => rfl) ?a_32 ?l_32 ?c_32 ?k_32 ?next_32
    (case a_32 => k_is)
    (case l_32 => k_is)
    (case c_32 => k_is)
    (case k_32 => k_is)
    intro d_is_one_bit
    refine' Rt.w_def (x := "made_one") (st := Rt.s_made_one) (ps := ["table", "one", "other"]) KX G (fun _ _ _ _ _ _ us hl => match us, hl with | [_, _, _], _ => rfl) ?a_33 ?l_33 ?c_33 ?k_33 ?next_33
    (case a_33 => k_is)
    (case l_33 => k_is)
    (case c_33 => k_is)
    (case k_33 => k_is)
    intro d_made_one
    refine' Rt.w_def (x := "first_pair") (st := Rt.s_first_pair) (ps := ["table", "bits"]) KX G (fun _ _ _ _ _ _ us hl => match us, hl with | [_, _], _ => rfl) ?a_34 ?l_34 ?c_34 ?k_34 ?next_34
    (case a_34 => k_is)
    (case l_34 => k_is)
    (case c_34 => k_is)
    (case k_34 => k_is)
    intro d_first_pair
    refine' Rt.w_def (x := "step") (st := Rt.s_step) (ps := ["table", "bits"]) KX G (fun _ _ _ _ _ _ us hl => match us, hl with | [_, _], _ => rfl) ?a_35 ?l_35 ?c_35 ?k_35 ?next_35
    (case a_35 => k_is)
    (case l_35 => k_is)
    (case c_35 => k_is)
    (case k_35 => k_is)
    intro d_step
    refine' Rt.w_def (x := "made_small") (st := Rt.s_made_small) (ps := ["table", "bits"]) KX G (fun _ _ _ _ _ _ us hl => match us, hl with | [_, _], _ => rfl) ?a_36 ?l_36 ?c_36 ?k_36 ?next_36
    (case a_36 => k_is)
    (case l_36 => k_is)
    (case c_36 => k_is)
    (case k_36 => k_is)
    intro d_made_small
    refine' Rt.w_def (x := "refuse_if") (st := Rt.s_refuse_if) (ps := ["truth", "why"]) KX G (fun _ _ _ _ _ _ us hl => match us, hl with | [_, _], _ => rfl) ?a_37 ?l_37 ?c_37 ?k_37 ?next_37
    (case a_37 => k_is)
    (case l_37 => k_is)
    (case c_37 => k_is)
    (case k_37 => k_is)
    intro d_refuse_if
    refine' Rt.w_def (x := "counted") (st := Rt.s_counted) (ps := ["row"]) KX G (fun _ _ _ _ _ _ us hl => match us, hl with | [_], _ => rfl) ?a_38 ?l_38 ?c_38 ?k_38 ?next_38
    (case a_38 => k_is)
    (case l_38 => k_is)
    (case c_38 => k_is)
    (case k_38 => k_is)
    intro d_counted
    refine' Rt.w_def (x := "sort_of") (st := Rt.s_sort_of) (ps := ["told"]) KX G (fun _ _ _ _ _ _ us hl => match us, hl with | [_], _ => rfl) ?a_39 ?l_39 ?c_39 ?k_39 ?next_39
    (case a_39 => k_is)
    (case l_39 => k_is)
    (case c_39 => k_is)
    (case k_39 => k_is)
    intro d_sort_of
    refine' Rt.w_def (x := "bit_otherwise") (st := Rt.s_bit_otherwise) (ps := ["header", "pattern"]) KX G (fun _ _ _ _ _ _ us hl => match us, hl with | [_, _], _ => rfl) ?a_40 ?l_40 ?c_40 ?k_40 ?next_40
    (case a_40 => k_is)
    (case l_40 => k_is)
    (case c_40 => k_is)
    (case k_40 => k_is)
    intro d_bit_otherwise
    refine' Rt.w_ini (qual := "Desk.__init__") (st := Rt.s_Desk_init) (ps := ["self"]) kDesk (fun _ _ _ _ _ _ us hl => match us, hl with | [_], _ => rfl) ?mk_41 ?a_41 ?i_41 ?l_41 ?c_41 ?k_41 ?kc_41 ?next_41
    (case mk_41 => k_is)
    (case a_41 => k_is)
    (case i_41 => k_is)
    (case l_41 => k_is)
    (case c_41 => k_is)
    (case k_41 => k_is)
    (case kc_41 => k_is)
    intro d_Desk_init
    refine' Rt.w_mth (m := "headers") (qual := "Desk.headers") (st := Rt.s_Desk_headers) (ps := ["self"]) kDesk (fun _ _ _ _ _ _ us hl => match us, hl with | [_], _ => rfl) ?a_42 ?i_42 ?l_42 ?c_42 ?k_42 ?next_42
    (case a_42 => k_is)
    (case i_42 => k_is)
    (case l_42 => k_is)
    (case c_42 => k_is)
    (case k_42 => k_is)
    intro d_Desk_headers
    refine' Rt.w_mth (m := "wide") (qual := "Desk.wide") (st := Rt.s_Desk_wide) (ps := ["self", "number"]) kDesk (fun _ _ _ _ _ _ us hl => match us, hl with | [_, _], _ => rfl) ?a_43 ?i_43 ?l_43 ?c_43 ?k_43 ?next_43
    (case a_43 => k_is)
    (case i_43 => k_is)
    (case l_43 => k_is)
    (case c_43 => k_is)
    (case k_43 => k_is)
    intro d_Desk_wide
    refine' Rt.w_mth (m := "put_table") (qual := "Desk.put_table") (st := Rt.s_Desk_put_table) (ps := ["self", "which", "numbers"]) kDesk (fun _ _ _ _ _ _ us hl => match us, hl with | [_, _, _], _ => rfl) ?a_44 ?i_44 ?l_44 ?c_44 ?k_44 ?next_44
    (case a_44 => k_is)
    (case i_44 => k_is)
    (case l_44 => k_is)
    (case c_44 => k_is)
    (case k_44 => k_is)
    intro d_Desk_put_table
    refine' Rt.w_mth (m := "put_rule") (qual := "Desk.put_rule") (st := Rt.s_Desk_put_rule) (ps := ["self", "which", "place", "numbers"]) kDesk (fun _ _ _ _ _ _ us hl => match us, hl with | [_, _, _, _], _ => rfl) ?a_45 ?i_45 ?l_45 ?c_45 ?k_45 ?next_45
    (case a_45 => k_is)
    (case i_45 => k_is)
    (case l_45 => k_is)
    (case c_45 => k_is)
    (case k_45 => k_is)
    intro d_Desk_put_rule
    refine' Rt.w_mth (m := "take_rule") (qual := "Desk.take_rule") (st := Rt.s_Desk_take_rule) (ps := ["self", "which", "number"]) kDesk (fun _ _ _ _ _ _ us hl => match us, hl with | [_, _, _], _ => rfl) ?a_46 ?i_46 ?l_46 ?c_46 ?k_46 ?next_46
    (case a_46 => k_is)
    (case i_46 => k_is)
    (case l_46 => k_is)
    (case c_46 => k_is)
    (case k_46 => k_is)
    intro d_Desk_take_rule
    refine' Rt.w_mth (m := "does") (qual := "Desk.does") (st := Rt.s_Desk_does) (ps := ["self", "which", "header"]) kDesk (fun _ _ _ _ _ _ us hl => match us, hl with | [_, _, _], _ => rfl) ?a_47 ?i_47 ?l_47 ?c_47 ?k_47 ?next_47
    (case a_47 => k_is)
    (case i_47 => k_is)
    (case l_47 => k_is)
    (case c_47 => k_is)
    (case k_47 => k_is)
    intro d_Desk_does
    refine' Rt.w_mth (m := "own") (qual := "Desk.own") (st := Rt.s_Desk_own) (ps := ["self", "which", "number"]) kDesk (fun _ _ _ _ _ _ us hl => match us, hl with | [_, _, _], _ => rfl) ?a_48 ?i_48 ?l_48 ?c_48 ?k_48 ?next_48
    (case a_48 => k_is)
    (case i_48 => k_is)
    (case l_48 => k_is)
    (case c_48 => k_is)
    (case k_48 => k_is)
    intro d_Desk_own
    refine' Rt.w_mth (m := "sent_by") (qual := "Desk.sent_by") (st := Rt.s_Desk_sent_by) (ps := ["self", "which", "port"]) kDesk (fun _ _ _ _ _ _ us hl => match us, hl with | [_, _, _], _ => rfl) ?a_49 ?i_49 ?l_49 ?c_49 ?k_49 ?next_49
    (case a_49 => k_is)
    (case i_49 => k_is)
    (case l_49 => k_is)
    (case c_49 => k_is)
    (case k_49 => k_is)
    intro d_Desk_sent_by
    refine' Rt.w_mth (m := "to") (qual := "Desk.to") (st := Rt.s_Desk_to) (ps := ["self", "which", "port"]) kDesk (fun _ _ _ _ _ _ us hl => match us, hl with | [_, _, _], _ => rfl) ?a_50 ?i_50 ?l_50 ?c_50 ?k_50 ?next_50
    (case a_50 => k_is)
    (case i_50 => k_is)
    (case l_50 => k_is)
    (case c_50 => k_is)
    (case k_50 => k_is)
    intro d_Desk_to
    refine' Rt.w_mth (m := "out") (qual := "Desk.out") (st := Rt.s_Desk_out) (ps := ["self", "which", "port"]) kDesk (fun _ _ _ _ _ _ us hl => match us, hl with | [_, _, _], _ => rfl) ?a_51 ?i_51 ?l_51 ?c_51 ?k_51 ?next_51
    (case a_51 => k_is)
    (case i_51 => k_is)
    (case l_51 => k_is)
    (case c_51 => k_is)
    (case k_51 => k_is)
    intro d_Desk_out
    refine' Rt.w_mth (m := "sent_as") (qual := "Desk.sent_as") (st := Rt.s_Desk_sent_as) (ps := ["self", "which", "port", "numbers"]) kDesk (fun _ _ _ _ _ _ us hl => match us, hl with | [_, _, _, _], _ => rfl) ?a_52 ?i_52 ?l_52 ?c_52 ?k_52 ?next_52
    (case a_52 => k_is)
    (case i_52 => k_is)
    (case l_52 => k_is)
    (case c_52 => k_is)
    (case k_52 => k_is)
    intro d_Desk_sent_as
    refine' Rt.w_mth (m := "many_counted") (qual := "Desk.many_counted") (st := Rt.s_Desk_many_counted) (ps := ["self", "which"]) kDesk (fun _ _ _ _ _ _ us hl => match us, hl with | [_, _], _ => rfl) ?a_53 ?i_53 ?l_53 ?c_53 ?k_53 ?next_53
    (case a_53 => k_is)
    (case i_53 => k_is)
    (case l_53 => k_is)
    (case c_53 => k_is)
    (case k_53 => k_is)
    intro d_Desk_many_counted
    refine' Rt.w_mth (m := "idle") (qual := "Desk.idle") (st := Rt.s_Desk_idle) (ps := ["self", "which"]) kDesk (fun _ _ _ _ _ _ us hl => match us, hl with | [_, _], _ => rfl) ?a_54 ?i_54 ?l_54 ?c_54 ?k_54 ?next_54
    (case a_54 => k_is)
    (case i_54 => k_is)
    (case l_54 => k_is)
    (case c_54 => k_is)
    (case k_54 => k_is)
    intro d_Desk_idle
    refine' Rt.w_mth (m := "turn") (qual := "Desk.turn") (st := Rt.s_Desk_turn) (ps := ["self", "which", "number"]) kDesk (fun _ _ _ _ _ _ us hl => match us, hl with | [_, _, _], _ => rfl) ?a_55 ?i_55 ?l_55 ?c_55 ?k_55 ?next_55
    (case a_55 => k_is)
    (case i_55 => k_is)
    (case l_55 => k_is)
    (case c_55 => k_is)
    (case k_55 => k_is)
    intro d_Desk_turn
    refine' Rt.w_mth (m := "small") (qual := "Desk.small") (st := Rt.s_Desk_small) (ps := ["self", "which"]) kDesk (fun _ _ _ _ _ _ us hl => match us, hl with | [_, _], _ => rfl) ?a_56 ?i_56 ?l_56 ?c_56 ?k_56 ?next_56
    (case a_56 => k_is)
    (case i_56 => k_is)
    (case l_56 => k_is)
    (case c_56 => k_is)
    (case k_56 => k_is)
    intro d_Desk_small
    refine' Rt.w_mth (m := "apart") (qual := "Desk.apart") (st := Rt.s_Desk_apart) (ps := ["self", "which"]) kDesk (fun _ _ _ _ _ _ us hl => match us, hl with | [_, _], _ => rfl) ?a_57 ?i_57 ?l_57 ?c_57 ?k_57 ?next_57
    (case a_57 => k_is)
    (case i_57 => k_is)
    (case l_57 => k_is)
    (case c_57 => k_is)
    (case k_57 => k_is)
    intro d_Desk_apart
    refine' Rt.w_mth (m := "why_told") (qual := "Desk.why_told") (st := Rt.s_Desk_why_told) (ps := ["self", "which", "header"]) kDesk (fun _ _ _ _ _ _ us hl => match us, hl with | [_, _, _], _ => rfl) ?a_58 ?i_58 ?l_58 ?c_58 ?k_58 ?next_58
    (case a_58 => k_is)
    (case i_58 => k_is)
    (case l_58 => k_is)
    (case c_58 => k_is)
    (case k_58 => k_is)
    intro d_Desk_why_told
    refine' Rt.w_mth (m := "pairs") (qual := "Desk.pairs") (st := Rt.s_Desk_pairs) (ps := ["self"]) kDesk (fun _ _ _ _ _ _ us hl => match us, hl with | [_], _ => rfl) ?a_59 ?i_59 ?l_59 ?c_59 ?k_59 ?next_59
    (case a_59 => k_is)
    (case i_59 => k_is)
    (case l_59 => k_is)
    (case c_59 => k_is)
    (case k_59 => k_is)
    intro d_Desk_pairs
    refine' Rt.w_mth (m := "other") (qual := "Desk.other") (st := Rt.s_Desk_other) (ps := ["self"]) kDesk (fun _ _ _ _ _ _ us hl => match us, hl with | [_], _ => rfl) ?a_60 ?i_60 ?l_60 ?c_60 ?k_60 ?next_60
    (case a_60 => k_is)
    (case i_60 => k_is)
    (case l_60 => k_is)
    (case c_60 => k_is)
    (case k_60 => k_is)
    intro d_Desk_other
    refine' Rt.w_mth (m := "classes") (qual := "Desk.classes") (st := Rt.s_Desk_classes) (ps := ["self"]) kDesk (fun _ _ _ _ _ _ us hl => match us, hl with | [_], _ => rfl) ?a_61 ?i_61 ?l_61 ?c_61 ?k_61 ?next_61
    (case a_61 => k_is)
    (case i_61 => k_is)
    (case l_61 => k_is)
    (case c_61 => k_is)
    (case k_61 => k_is)
    intro d_Desk_classes
    refine' Rt.w_def (x := "table_told") (st := Rt.s_table_told) (ps := ["desk", "call", "numbers", "row"]) KX G (fun _ _ _ _ _ _ us hl => match us, hl with | [_, _, _, _], _ => rfl) ?a_62 ?l_62 ?c_62 ?k_62 ?next_62
    (case a_62 => k_is)
    (case l_62 => k_is)
    (case c_62 => k_is)
    (case k_62 => k_is)
    intro d_table_told
    refine' Rt.w_def (x := "looked_told") (st := Rt.s_looked_told) (ps := ["desk", "call", "which", "numbers"]) KX G (fun _ _ _ _ _ _ us hl => match us, hl with | [_, _, _, _], _ => rfl) ?a_63 ?l_63 ?c_63 ?k_63 ?next_63
    (case a_63 => k_is)
    (case l_63 => k_is)
    (case c_63 => k_is)
    (case k_63 => k_is)
    intro d_looked_told
    refine' Rt.w_def (x := "call_told") (st := Rt.s_call_told) (ps := ["desk", "call", "numbers", "row"]) KX G (fun _ _ _ _ _ _ us hl => match us, hl with | [_, _, _, _], _ => rfl) ?a_64 ?l_64 ?c_64 ?k_64 ?next_64
    (case a_64 => k_is)
    (case l_64 => k_is)
    (case c_64 => k_is)
    (case k_64 => k_is)
    intro d_call_told
    refine' Rt.w_def (x := "answer_of") (st := Rt.s_answer_of) (ps := ["desk", "call", "numbers", "row"]) KX G (fun _ _ _ _ _ _ us hl => match us, hl with | [_, _, _, _], _ => rfl) ?a_65 ?l_65 ?c_65 ?k_65 ?next_65
    (case a_65 => k_is)
    (case l_65 => k_is)
    (case c_65 => k_is)
    (case k_65 => k_is)
    intro d_answer_of
    refine' Rt.w_ini (qual := "CallReader.__init__") (st := Rt.s_CallReader_init) (ps := ["self", "calls"]) kCallReader (fun _ _ _ _ _ _ us hl => match us, hl with | [_, _], _ => rfl) ?mk_66 ?a_66 ?i_66 ?l_66 ?c_66 ?k_66 ?kc_66 ?next_66
    (case mk_66 => k_is)
    (case a_66 => k_is)
    (case i_66 => k_is)
    (case l_66 => k_is)
    (case c_66 => k_is)
    (case k_66 => k_is)
    (case kc_66 => k_is)
    intro d_CallReader_init
    refine' Rt.w_mth (m := "is_done") (qual := "CallReader.is_done") (st := Rt.s_CallReader_is_done) (ps := ["self"]) kCallReader (fun _ _ _ _ _ _ us hl => match us, hl with | [_], _ => rfl) ?a_67 ?i_67 ?l_67 ?c_67 ?k_67 ?next_67
    (case a_67 => k_is)
    (case i_67 => k_is)
    (case l_67 => k_is)
    (case c_67 => k_is)
    (case k_67 => k_is)
    intro d_CallReader_is_done
    refine' Rt.w_mth (m := "next_some") (qual := "CallReader.next_some") (st := Rt.s_CallReader_next_some) (ps := ["self", "many"]) kCallReader (fun _ _ _ _ _ _ us hl => match us, hl with | [_, _], _ => rfl) ?a_68 ?i_68 ?l_68 ?c_68 ?k_68 ?next_68
    (case a_68 => k_is)
    (case i_68 => k_is)
    (case l_68 => k_is)
    (case c_68 => k_is)
    (case k_68 => k_is)
    intro d_CallReader_next_some
    refine' Rt.w_def (x := "answers") (st := Rt.s_answers) (ps := ["calls"]) KX G (fun _ _ _ _ _ _ us hl => match us, hl with | [_], _ => rfl) ?a_69 ?l_69 ?c_69 ?k_69 ?next_69
    (case a_69 => k_is)
    (case l_69 => k_is)
    (case c_69 => k_is)
    (case k_69 => k_is)
    intro d_answers
    refine' Rt.w_low KX G ?aC_70 ?xL_70 ?sa_70 ?ga_70 ?gg_70 ?nb_70 ?a1_70 ?t1_70 ?l1_70 ?c1_70 ?kC_70 ?eC_70 ?tC_70 ?hC_70 ?iC_70 ?sC_70 ?next_70
    (case aC_70 => k_is)
    (case xL_70 => k_is)
    (case sa_70 => k_is)
    (case ga_70 => k_is)
    (case gg_70 => k_is)
    (case nb_70 => k_is)
    (case a1_70 => k_is)
    (case t1_70 => k_is)
    (case l1_70 => k_is)
    (case c1_70 => k_is)
    (case kC_70 => k_is)
    (case eC_70 => k_is)
    (case tC_70 => k_is)
    (case hC_70 => k_is)
    (case iC_70 => k_is)
    (case sC_70 => first | rfl | k_is)
    intro low le li lt
    refine' Rt.w_nr KX G ?a_71 ?xF_71 ?kF_71 ?bF_71 ?tF_71 ?iF_71 ?sF_71 ?next_71
    (case a_71 => k_is)
    (case xF_71 => k_exc)
    (case kF_71 => k_is)
    (case bF_71 => k_is)
    (case tF_71 => k_is)
    (case iF_71 => k_is)
    (case sF_71 => first | rfl | k_is)
    intro gF xF kF bF tF eF
    refine' Rt.w_rnr low le li lt kF ?a_72 ?next_72
    (case a_72 => k_is)
    intro rNR
    refine' Rt.w_tup (x := "NUMBERS") (ns := [1, 1, 2, 2, 1, 2, 2, 1, 2, 2, 2, 1, 1, 2, 1, 1, 2, 1, 0, 0]) KX G ?e_73 ?l_73 ?v_73 ?hl_73 ?next_73
    (case e_73 => k_is)
    (case l_73 => k_is)
    (case v_73 => rfl)
    (case hl_73 => decide)
    intro gNUMBERS tNUMBERS
    refine' Rt.w_tup (x := "ROWS") (ns := [0, 1, 1, 0, 0, 0, 0, 0, 0, 0, 1, 0, 0, 0, 0, 0, 0, 0, 0, 0]) KX G ?e_74 ?l_74 ?v_74 ?hl_74 ?next_74
    (case e_74 => k_is)
    (case l_74 => k_is)
    (case v_74 => rfl)
    (case hl_74 => decide)
    intro gROWS tROWS
    refine' Rt.w_int (x := "MOST_RULES") (i := 8) KX G ?a_75 ?next_75
    (case a_75 => k_is)
    intro cMOST_RULES
    refine' Rt.w_int (x := "MOST_PORT") (i := 5) KX G ?a_76 ?next_76
    (case a_76 => k_is)
    intro cMOST_PORT
    refine' Rt.w_int (x := "DROP") (i := 0) KX G ?a_77 ?next_77
    (case a_77 => k_is)
    intro cDROP
    refine' Rt.w_int (x := "SEND") (i := 1) KX G ?a_78 ?next_78
    (case a_78 => k_is)
    intro cSEND
    refine' Rt.w_int (x := "HOLE") (i := 0) KX G ?a_79 ?next_79
    (case a_79 => k_is)
    intro cHOLE
    refine' Rt.w_int (x := "DROPPED") (i := 1) KX G ?a_80 ?next_80
    (case a_80 => k_is)
    intro cDROPPED
    refine' Rt.w_int (x := "SENT") (i := 2) KX G ?a_81 ?next_81
    (case a_81 => k_is)
    intro cSENT
    refine' Rt.w_int (x := "WIDE") (i := 0) KX G ?a_82 ?next_82
    (case a_82 => k_is)
    intro cWIDE
    refine' Rt.w_int (x := "TABLE") (i := 1) KX G ?a_83 ?next_83
    (case a_83 => k_is)
    intro cTABLE
    refine' Rt.w_int (x := "PUT") (i := 2) KX G ?a_84 ?next_84
    (case a_84 => k_is)
    intro cPUT
    refine' Rt.w_int (x := "TAKE") (i := 3) KX G ?a_85 ?next_85
    (case a_85 => k_is)
    intro cTAKE
    refine' Rt.w_int (x := "SHOWN") (i := 4) KX G ?a_86 ?next_86
    (case a_86 => k_is)
    intro cSHOWN
    refine' Rt.w_int (x := "DOES") (i := 5) KX G ?a_87 ?next_87
    (case a_87 => k_is)
    intro cDOES
    refine' Rt.w_int (x := "OWN") (i := 6) KX G ?a_88 ?next_88
    (case a_88 => k_is)
    intro cOWN
    refine' Rt.w_int (x := "HOLES") (i := 7) KX G ?a_89 ?next_89
    (case a_89 => k_is)
    intro cHOLES
    refine' Rt.w_int (x := "TO") (i := 8) KX G ?a_90 ?next_90
    (case a_90 => k_is)
    intro cTO
    refine' Rt.w_int (x := "OUT") (i := 9) KX G ?a_91 ?next_91
    (case a_91 => k_is)
    intro cOUT
    refine' Rt.w_int (x := "FROM") (i := 10) KX G ?a_92 ?next_92
    (case a_92 => k_is)
    intro cFROM
    refine' Rt.w_int (x := "IDLE") (i := 11) KX G ?a_93 ?next_93
    (case a_93 => k_is)
    intro cIDLE
    refine' Rt.w_int (x := "SPARE") (i := 12) KX G ?a_94 ?next_94
    (case a_94 => k_is)
    intro cSPARE
    refine' Rt.w_int (x := "TURN") (i := 13) KX G ?a_95 ?next_95
    (case a_95 => k_is)
    intro cTURN
    refine' Rt.w_int (x := "SMALL") (i := 14) KX G ?a_96 ?next_96
    (case a_96 => k_is)
    intro cSMALL
    refine' Rt.w_int (x := "APART") (i := 15) KX G ?a_97 ?next_97
    (case a_97 => k_is)
    intro cAPART
    refine' Rt.w_int (x := "WHY") (i := 16) KX G ?a_98 ?next_98
    (case a_98 => k_is)
    intro cWHY
    refine' Rt.w_int (x := "COUNTS") (i := 17) KX G ?a_99 ?next_99
    (case a_99 => k_is)
    intro cCOUNTS
    refine' Rt.w_int (x := "OTHER") (i := 18) KX G ?a_100 ?next_100
    (case a_100 => k_is)
    intro cOTHER
    refine' Rt.w_int (x := "MOST_BITS") (i := 7) KX G ?a_101 ?next_101
    (case a_101 => k_is)
    intro cMOST_BITS
    refine' Rt.w_none (x := "len") KX G ?a_102 ?next_102
    (case a_102 => k_is)
    intro zlen
    refine' Rt.w_none (x := "list") KX G ?a_103 ?next_103
    (case a_103 => k_is)
    intro zlist
    refine' Rt.w_none (x := "int") KX G ?a_104 ?next_104
    (case a_104 => k_is)
    intro zint
    refine' Rt.w_none (x := "sorted") KX G ?a_105 ?next_105
    (case a_105 => k_is)
    intro zsorted
    refine' Rt.w_none (x := "set") KX G ?a_106 ?next_106
    (case a_106 => k_is)
    intro zset
    refine' Rt.w_none (x := "range") KX G ?a_107 ?next_107
    (case a_107 => k_is)
    intro zrange
    refine' Rt.w_none (x := "enumerate") KX G ?a_108 ?next_108
    (case a_108 => k_is)
    intro zenumerate
    exact Rt.fin { cReader := _, cDesk := _, cCallReader := _, cNR := _, cRef := _, fRef := _, aNUMBERS := _, aROWS := _, need := d_need, Reader_init := d_Reader_init, Reader_take := d_Reader_take, Reader_look_at_end := d_Reader_look_at_end, Reader_pattern := d_Reader_pattern, Reader_rule := d_Reader_rule, table_of := d_table_of, rule_of := d_rule_of, patterns_in := d_patterns_in, matchesD := d_matchesD, counting := d_counting, outcome := d_outcome, outcomes := d_outcomes, set_patterns := d_set_patterns, own_headers := d_own_headers, rule_numbers := d_rule_numbers, table_numbers := d_table_numbers, set_numbers := d_set_numbers, without := d_without, spare_rules := d_spare_rules, exchanged := d_exchanged, is_one_bit := d_is_one_bit, made_one := d_made_one, first_pair := d_first_pair, step := d_step, made_small := d_made_small, refuse_if := d_refuse_if, counted := d_counted, sort_of := d_sort_of, bit_otherwise := d_bit_otherwise, Desk_init := d_Desk_init, Desk_headers := d_Desk_headers, Desk_wide := d_Desk_wide, Desk_put_table := d_Desk_put_table, Desk_put_rule := d_Desk_put_rule, Desk_take_rule := d_Desk_take_rule, Desk_does := d_Desk_does, Desk_own := d_Desk_own, Desk_sent_by := d_Desk_sent_by, Desk_to := d_Desk_to, Desk_out := d_Desk_out, Desk_sent_as := d_Desk_sent_as, Desk_many_counted := d_Desk_many_counted, Desk_idle := d_Desk_idle, Desk_turn := d_Desk_turn, Desk_small := d_Desk_small, Desk_apart := d_Desk_apart, Desk_why_told := d_Desk_why_told, Desk_pairs := d_Desk_pairs, Desk_other := d_Desk_other, Desk_classes := d_Desk_classes, table_told := d_table_told, looked_told := d_looked_told, call_told := d_call_told, answer_of := d_answer_of, CallReader_init := d_CallReader_init, CallReader_is_done := d_CallReader_is_done, CallReader_next_some := d_CallReader_next_some, answers := d_answers, kReader := kReader, gReader := gReader, nReader_numbers := nReader_numbers, nReader_at := nReader_at, nReader_bits := nReader_bits, kDesk := kDesk, gDesk := gDesk, nDesk_bits := nDesk_bits, nDesk_tables := nDesk_tables, kCallReader := kCallReader, gCallReader := gCallReader, nCallReader_calls := nCallReader_calls, nCallReader_at := nCallReader_at, low := low, rNR := rNR, gF := gF, xF := xF, kF := kF, bF := bF, tF := tF, eF := eF, gNUMBERS := gNUMBERS, gROWS := gROWS, tNUMBERS := tNUMBERS, tROWS := tROWS, cMOST_RULES := cMOST_RULES, cMOST_PORT := cMOST_PORT, cDROP := cDROP, cSEND := cSEND, cHOLE := cHOLE, cDROPPED := cDROPPED, cSENT := cSENT, cWIDE := cWIDE, cTABLE := cTABLE, cPUT := cPUT, cTAKE := cTAKE, cSHOWN := cSHOWN, cDOES := cDOES, cOWN := cOWN, cHOLES := cHOLES, cTO := cTO, cOUT := cOUT, cFROM := cFROM, cIDLE := cIDLE, cSPARE := cSPARE, cTURN := cTURN, cSMALL := cSMALL, cAPART := cAPART, cWHY := cWHY, cCOUNTS := cCOUNTS, cOTHER := cOTHER, cMOST_BITS := cMOST_BITS, zlen := zlen, zlist := zlist, zint := zint, zsorted := zsorted, zset := zset, zrange := zrange, zenumerate := zenumerate } hmg
  case S =>
    intro K H xs a hO hwi hask hx
    cases hx with
    | cons h1 h2 =>
      cases h2
      cases h1 with
      | lst hs ha =>
        have e := L2.ints_dw a.1 _ ha
        subst e
        exact ⟨_, a.1, rfl, hs, hask, fun H' p hp => .lst (L2.SqL.of hp) (L2.dw_ints _)⟩

