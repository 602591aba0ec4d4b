import PyProof.Rows.All
import Wide.All
import OpenK.AllK
import Wide.FinOn
import HandS.ForMost
import HandS.ForExc
import HandS.DictComp
import HandS.Set
import HandS.SetFor
import HandS.Strs
import KE.GoesMore
import KE.KDictList
import PyProof.StrWalks
import HandS.Conv
import HandS.Evl
import KE.KeyNested
import HandS.Lambda
import HandS.TupAny
import HandS.TupLe
import HandS.TupMul
import HandS.Deep
import HandS.Style
import HandS.Walk
import HandS.IsInst
import HandS.SortInts
import HandS.More
import HandS.Zip
import HandS.Wide
import HandS.ExcIs
import HandS.TryOnly
import HandS.Head0
import HandS.Head1
import HandS.Head2
import HandS.HeadEnd
import HandS.HeadHook1
import HandS.HeadHook2
import HandS.Defaults
import KE.SortCalls
import KE.DataMinMax
import KE.KDictDisplayH
import KE.KDictCopyH
import KE.KDictOf
import KE.SortKeyHeap
import HandS.SortKw
import HandS.TupSets
import HandS.HotCalls
import HandS.HeadWalk
import HandS.HeadHook4
import HandS.Text
import HandS.Codes
import PyProof.StrBlockL
import PyProof.FitsReplace
import PySem.Challenge.RW_bloomback_k68_formats
set_option Elab.async false
set_option linter.all false
set_option maxRecDepth 100000
set_option maxHeartbeats 2000000
/-! A dict comprehension of two clauses without tests, in the hand layer's way (after its rules for one clause, and for lists of two). -/
namespace DL
open PySem PySem.Spec PyProof.Rows L2
/-- {kx: vx for t0 in i0 for t1 in i1} -/
abbrev DC2 (kx vx t0 i0 t1 i1 : Expr) (sc : Scope) (pos : Pos) : Expr := .DictComp kx vx [⟨t0, i0, [], 0⟩, ⟨t1, i1, [], 0⟩] sc pos
theorem turnA (kx vx t0 i0 t1 i1 : Expr) (sc : Scope) (pos : Pos) (it acc : Value) (env : Env) : compTurn (DC2 kx vx t0 i0 t1 i1 sc pos) 0 it acc env = (do
      standAt i0.pos
      match ← pyNext it with
      | none => pure (.done .next)
      | some v =>
        letOwnedTupleGo t0 it v
        assign t0 env v
        let x ← eval i1 env
        standAt i1.pos
        let x ← foldedSetIterable i1 env x
        let _ ← runOwn (.compStart (DC2 kx vx t0 i0 t1 i1 sc pos) 1 (← holding [x] (pyIter x)) acc env) env
        again (.compLoop (DC2 kx vx t0 i0 t1 i1 sc pos) 0 it acc env)) := by rfl
theorem turnB (kx vx t0 i0 t1 i1 : Expr) (sc : Scope) (pos : Pos) (it : Value) (D : Addr) (env : Env) : compTurn (DC2 kx vx t0 i0 t1 i1 sc pos) 1 it (.ref D) env = (do
      standAt i1.pos
      match ← pyNext it with
      | none => pure (.done .next)
      | some v =>
        letOwnedTupleGo t1 it v
        assign t1 env v
        (do let kv ← eval kx env; let vv ← holding [kv] (eval vx env); standAt { kx.pos with endLine := vx.pos.endLine, endCol := vx.pos.endCol }; holding [kv, vv] (dictSet D kv vv))
        again (.compLoop (DC2 kx vx t0 i0 t1 i1 sc pos) 1 it (.ref D) env)) := by rfl
section
variable {prog : Program} {w : World} {A : Around} {R : Result → Shared → Prop} {s : Shared} {kx vx t0 i0 t1 i1 : Expr} {sc : Scope} {pos : Pos} {it : Value} {D : Addr} {env : Env}
/-- no exception is wished for -/
abbrev NX (prog : Program) (w : World) (A : Around) (env : Env) (R : Result → Shared → Prop) : Value → Shared → Prop := notedBy (model prog w) A env fun e s' => R (.error e) s'
theorem loopA (hs : ∀ x, foldedSetIterable i1 env x = pure x) (I : Nat → Shared → Prop)
    (turn : ∀ n s, I n s → wpAny (model prog w) A (pyNext it) (fun r s1 => match r with
      | none => R (.ok .next) s1
      | some v => wpAny (model prog w) A (letOwnedTupleGo t0 it v) (fun _ s2 => wpAny (model prog w) A (assign t0 env v) (fun _ s3 => wpAny (model prog w) A (eval i1 env) (fun x s4 => wpAny (model prog w) A (pyIter x) (fun j s5 =>
              codeAny (model prog w) A (.compStart (DC2 kx vx t0 i0 t1 i1 sc pos) 1 j (.ref D) env) (fun r s' => match r with
                | .ok _ => ∃ m, m < n ∧ I m s'
                | .error _ => False) s5) (NX prog w A env R) s4) (NX prog w A env R) s3) (NX prog w A env R) s2) (NX prog w A env R) s1) (NX prog w A env R) s) (n : Nat) (h : I n s) :
    codeAny (model prog w) A (.compLoop (DC2 kx vx t0 i0 t1 i1 sc pos) 0 it (.ref D) env) R s := by
  refine codeAny_loop rfl I (fun n s hI => ?_) n h
  show wpAny _ A ((compTurn (DC2 kx vx t0 i0 t1 i1 sc pos) 0 it (.ref D) env).onRaise (fun x => do noteFrame x env; theTreesLotGoes x)) _ _ s
  refine wpAny_noted ?_
  rw [turnA]
  refine wpAny_bind (wpAny_standAt (wpAny_bind (thn (turn n s hI) fun r s1 h1 => ?_)))
  cases r with
  | none => exact wpAny_pure h1
  | some v =>
    refine wpAny_bind (thn h1 fun _ s2 h2 => wpAny_bind (thn h2 fun _ s3 h3 => wpAny_bind (thn h3 fun x s4 h4 => ?_)))
    refine wpAny_bind (wpAny_standAt (wpAny_bind (wpAny_of_eq (hs x) (wpAny_bind (wpAny_holding (thn h4 fun j s5 h5 => wpAny_bind (wpAny_runOwn ?_)))))))
    rw [Around.mark_none]
    refine codeAny_mono h5 fun r s' hr => ?_
    cases r with
    | ok f => first
      | exact wpAny_pure ⟨rfl, hr⟩
      | exact wpAny_bind (wpAny_pure (wpAny_pure ⟨rfl, hr⟩))
    | error e => exact hr.elim
theorem loopB (I : Nat → Shared → Prop)
    (turn : ∀ n s, I n s → wpAny (model prog w) A (pyNext it) (fun r s1 => match r with
      | none => R (.ok .next) s1
      | some v => wpAny (model prog w) A (letOwnedTupleGo t1 it v) (fun _ s2 => wpAny (model prog w) A (assign t1 env v) (fun _ s3 => wpAny (model prog w) A (eval kx env) (fun kv s4 => wpAny (model prog w) A (eval vx env) (fun vv s5 =>
              wpAny (model prog w) A (dictSet D kv vv) (fun _ s6 => ∃ m, m < n ∧ I m s6) (NX prog w A env R) s5) (NX prog w A env R) s4) (NX prog w A env R) s3) (NX prog w A env R) s2) (NX prog w A env R) s1) (NX prog w A env R) s) (n : Nat) (h : I n s) :
    codeAny (model prog w) A (.compLoop (DC2 kx vx t0 i0 t1 i1 sc pos) 1 it (.ref D) env) R s := by
  refine codeAny_loop rfl I (fun n s hI => ?_) n h
  show wpAny _ A ((compTurn (DC2 kx vx t0 i0 t1 i1 sc pos) 1 it (.ref D) env).onRaise (fun x => do noteFrame x env; theTreesLotGoes x)) _ _ s
  refine wpAny_noted ?_
  rw [turnB]
  refine wpAny_bind (wpAny_standAt (wpAny_bind (thn (turn n s hI) fun r s1 h1 => ?_)))
  cases r with
  | none => exact wpAny_pure h1
  | some v =>
    refine wpAny_bind (thn h1 fun _ s2 h2 => wpAny_bind (thn h2 fun _ s3 h3 => wpAny_bind (wpAny_bind (thn h3 fun kv s4 h4 => ?_))))
    exact wpAny_bind (wpAny_holding (thn h4 fun vv s5 h5 => wpAny_bind (wpAny_standAt (wpAny_holding (thn h5 fun _ s6 h6 => wpAny_pure ⟨rfl, h6⟩)))))
theorem startB (h0 : codeAny (model prog w) A (.compLoop (DC2 kx vx t0 i0 t1 i1 sc pos) 1 it (.ref D) env) R s)
    (h : wpAny (model prog w) A (pyIter it) (fun j s' => codeAny (model prog w) A (.compLoop (DC2 kx vx t0 i0 t1 i1 sc pos) 1 j (.ref D) env) R s') (NX prog w A env R) s) :
    codeAny (model prog w) A (.compStart (DC2 kx vx t0 i0 t1 i1 sc pos) 1 it (.ref D) env) R s := by
  refine codeAny_of_tree ?_
  show wpAny _ _ ((compStart (DC2 kx vx t0 i0 t1 i1 sc pos) 1 it (.ref D) env).onRaise (fun x => do noteFrame x env; standAt theWindowsPlace)) _ _ s
  refine wpAny_notedAt ?_
  unfold compStart
  show wpAny _ _ (ask >>= _) _ _ s
  refine wpAny_bind (wpAny_askSetting (wpAny_ite ?_))
  split
  · first
      | exact wpAny_bind (wpAny_pure (wpAny_pure (And.intro rfl h0)))
      | exact wpAny_pure (And.intro rfl h0)
  · refine wpAny_bind (wpAny_rule ?_)
    first
      | exact wpAny_bind (wpAny_standAt (wpAny_bind (thn h fun _ _ h' => wpAny_pure (And.intro rfl h'))))
      | (show wpAny _ _ (standAt i1.pos >>= _) _ _ s; exact wpAny_bind (wpAny_standAt (wpAny_bind (thn h fun _ _ h' => wpAny_pure (And.intro rfl h')))))
theorem startA (h0 : codeAny (model prog w) A (.compLoop (DC2 kx vx t0 i0 t1 i1 sc pos) 0 it (.ref D) env) R s)
    (h : wpAny (model prog w) A (pyIter it) (fun j s' => codeAny (model prog w) A (.compLoop (DC2 kx vx t0 i0 t1 i1 sc pos) 0 j (.ref D) env) R s') (NX prog w A env R) s) :
    codeAny (model prog w) A (.compStart (DC2 kx vx t0 i0 t1 i1 sc pos) 0 it (.ref D) env) R s := by
  refine codeAny_of_tree ?_
  show wpAny _ _ ((compStart (DC2 kx vx t0 i0 t1 i1 sc pos) 0 it (.ref D) env).onRaise (fun x => do noteFrame x env; standAt theWindowsPlace)) _ _ s
  refine wpAny_notedAt ?_
  unfold compStart
  show wpAny _ _ (ask >>= _) _ _ s
  refine wpAny_bind (wpAny_askSetting (wpAny_ite ?_))
  split
  · first
      | exact wpAny_bind (wpAny_pure (wpAny_pure (And.intro rfl h0)))
      | exact wpAny_pure (And.intro rfl h0)
  · refine wpAny_bind (wpAny_rule ?_)
    first
      | exact wpAny_bind (wpAny_standAt (wpAny_bind (thn h fun _ _ h' => wpAny_pure (And.intro rfl h'))))
      | (show wpAny _ _ (standAt i0.pos >>= _) _ _ s; exact wpAny_bind (wpAny_standAt (wpAny_bind (thn h fun _ _ h' => wpAny_pure (And.intro rfl h')))))
end
section
variable {X : Cx}
/-- the second clause's loop, from which Nx is reached -/
def tIn (wi1 : TI) (g1 : TG) (tk tv : TE) (vs1 : List Nat) (D : Addr) (Nx : Hp → Prop) : L2.St → Hp → Prop := fun σ2 H2 => wi1 σ2 H2 fun J1 H4 => ∃ W1 : Nat → Nat → Hp → Prop, (∃ m, W1 0 m H4) ∧ ∀ j k H, W1 j k H →
  (J1.stop j H ∧ Nx H) ∨ (J1.go j H ∧ ∃ Nx1 : Hp → Prop, (∀ H', Nx1 H' → ∃ k', k' < k ∧ W1 (j + 1) k' H') ∧ ∀ x H', J1.yld j H x H' → g1 x (wipe σ2 vs1) H' fun σ3 H5 => wipe σ3 vs1 = wipe σ2 vs1 ∧
    tk σ3 H5 fun y H6 => tv σ3 H6 fun z H7 => ∃ kvs k, y = kV k ∧ H7 D = some (.dK kvs) ∧ kvs.length < sizeLine ∧ Nx1 (upd H7 D (.dK (putK kvs k z))))
def tDc2 (wi : TI) (g : TG) (wi1 : TI) (g1 : TG) (tk tv : TE) (vs vs1 : List Nat) : TE := fun σ H Q => wi σ H fun J H1 => ∀ D, H1 D = none → ∃ W : Nat → Nat → Hp → Prop, (∃ m, W 0 m (upd H1 D (.dK []))) ∧ ∀ i m H, W i m H →
  (J.stop i H ∧ Q (.ref D) H) ∨ (J.go i H ∧ ∃ Nx : Hp → Prop, (∀ H', Nx H' → ∃ m', m' < m ∧ W (i + 1) m' H') ∧ ∀ x H', J.yld i H x H' → g x (wipe σ vs) H' fun σ2 H2 => wipe σ2 vs = wipe σ vs ∧ tIn wi1 g1 tk tv vs1 D Nx σ2 H2)
/-- in every block of X -/
abbrev AllB (X : Cx) (scope : Scope) (p : Cx → Prop) : Prop := ∀ (s : Shared) (H : Hp) (C : Addr) (cl : List (Str × Addr)) (fp : List Addr), p (X.blk s H scope (compEnvC scope cl C X.env) fp)
theorem dc2_core {pins : List (Addr × Obj)} {s : Shared} {σ : L2.St} {H : Hp} {Q : VK} {kx vx tg iter tg1 iter1 : Expr} {scope : Scope} {own : List (Str × Nat)} {vs1 : List Nat} {pos pos' : Pos} {wi wi1 : TI} {g g1 : TG} {tk tv : TE} {use : Option (Value → Sem Unit)} {Qf : Value → Shared → Prop}
    (hc : X.calm = true) (hN : X.N.Nodup) (I : Inv X pins σ H s) (hi : PI X tg iter wi) (ok : BlkOk X.N X.env.scope scope own) (hv : ∀ i ∈ vs1, i ∈ own.map (·.2))
    (hg : AllB X scope fun Y => PG Y tg g) (hi1 : AllB X scope fun Y => PI Y tg1 iter1 wi1) (hg1 : AllB X scope fun Y => PG Y tg1 g1) (hk : AllB X scope fun Y => PE Y kx tk) (he : AllB X scope fun Y => PE Y vx tv)
    (hs : ∀ x, foldedSetIterable iter X.env x = pure x) (hs1 : ∀ env x, foldedSetIterable iter1 env x = pure x) (h : tDc2 wi g wi1 g1 tk tv (own.map (·.2)) vs1 σ H Q)
    (hRR : ∀ D C s' m H', Inv X pins σ H' s' → Q (.ref D) H' → s'.heap.Ns C m → FpOk X pins H' C → compPost (model X.prog X.w) X.A X.xe use Qf (.ref D) C (.ok .next) s') :
    wpAny (model X.prog X.w) X.A (comprehension (DC2 kx vx tg iter tg1 iter1 scope pos) scope X.env pos' newDict false (eval iter X.env) use) Qf X.xe s := by
  have hfree : ∀ y ∈ scope.names, y.2 = .free → ∃ c, X.env.cells.lookup y.1 = some c := fun y hy e => (ok.free y hy e).elim (fun k => I.ok.has _ (.inl k)) fun k => I.ok.has _ (.inr k)
  refine wpAny_comprehension_free (use := use) rfl hs (closure_ok hfree) ok.kind (fun y hy e => by rw [ok.uniq y hy, e]) (thn (hi.run pins s σ H _ I h) fun xv s1 hx => thn hx fun itv s2 h2 => ?_)
  obtain ⟨it, fp, tn, J, H2, e, I2, T, st2, f2, q⟩ := h2
  subst e
  refine wpAny_newObj_type (newEnv_comp ?_)
  generalize hD : s2.heap.objs.size = D
  obtain ⟨W, ⟨m0, w0⟩, turn⟩ := q D (I2.hok.fresh (Nat.le_of_eq hD))
  generalize hs3 : ({ s2 with heap := s2.heap.push { cls := .type "dict", data := .dict #[] } } : Shared) = s3
  have h3 : s3.heap = s2.heap.push { cls := .type "dict", data := .dict #[] } := by rw [← hs3]
  have I3 : Inv X pins σ (upd H2 D (.dK [])) s3 := by
    rw [← hs3]
    refine I2.laid (t' := s2.toks) (fun b o e => Heap.get?_push_of_some _ e) (Nat.le_of_eq hD) ?_
    rw [← hD]
    exact dk_empty s2.heap I2.big
  have f3 : ∀ b ∈ fp, FpOk X pins (upd H2 D (.dK [])) b ∧ b < s3.heap.objs.size := fun b hb => by
    obtain ⟨o, e, _⟩ := T.obj _ _ st2 b hb
    have hlt := Heap.lt_size e
    refine ⟨⟨?_, (f2 b hb).2⟩, by rw [h3, Heap.size_push]; exact Nat.lt_succ_of_lt hlt⟩
    rw [upd_ne (by rw [← hD]; exact Nat.ne_of_lt hlt)]
    exact (f2 b hb).1
  have I4 := block_start I3 ok hN f3
  generalize hcl : cellsFrom (s3.heap.objs.size + 1) scope.names (cloFrom X.env.cells scope.names []) = cl at I4 ⊢
  have pg := hg s3 (upd H2 D (.dK [])) s3.heap.objs.size cl fp
  have pi1 := hi1 s3 (upd H2 D (.dK [])) s3.heap.objs.size cl fp
  have pg1 := hg1 s3 (upd H2 D (.dK [])) s3.heap.objs.size cl fp
  have pk := hk s3 (upd H2 D (.dK [])) s3.heap.objs.size cl fp
  have pe := he s3 (upd H2 D (.dK [])) s3.heap.objs.size cl fp
  show codeAny _ _ (.compStart (DC2 kx vx tg iter tg1 iter1 scope pos) 0 (.ref it) (.ref D) (compEnvC scope cl s3.heap.objs.size X.env)) (compPost (model X.prog X.w) X.A X.xe use Qf (.ref D) s3.heap.objs.size) { s3 with heap := pushCells (s3.heap.push { cls := .type "dict", data := .dict #[] }) scope.names }
  have nfp : ∀ b ∈ fp, (upd H2 D (.dK [])) b = none := fun b hb => (f3 b hb).1.1
  generalize hce : compEnvC scope cl s3.heap.objs.size X.env = ce at I4 pg pi1 pg1 pk pe ⊢
  have cL : ce.locals = s3.heap.objs.size := by subst hce; rfl
  generalize hH3 : upd H2 D (.dK []) = H3 at I3 I4 pg pi1 pg1 pk pe w0 nfp f3
  generalize hs4 : ({ s3 with heap := pushCells (s3.heap.push { cls := .type "dict", data := .dict #[] }) scope.names } : Shared) = s4 at I4 ⊢
  have st4 : tn 0 s4.heap := T.keep _ _ _ st2 fun b _ o e => by rw [← hs4]; exact pushCells_keeps _ _ _ _ (Heap.get?_push_of_some _ (by rw [h3]; exact Heap.get?_push_of_some _ e))
  generalize hY : X.blk s3 H3 scope ce fp = Y at I4 pg pi1 pg1 pk pe
  have yp : Y.prog = X.prog ∧ Y.w = X.w ∧ Y.K = X.K ∧ Y.A = X.A ∧ Y.env = ce ∧ Y.calm = true ∧ (Y.xe = fun _ _ => False) := by subst hY; exact ⟨rfl, rfl, rfl, rfl, rfl, hc, rfl⟩
  obtain ⟨yp, yw, yK, yA, ye, yc, yx⟩ := yp
  have stat : ∀ {σ' : L2.St} {H' : Hp} {s' : Shared}, Inv Y [] σ' H' s' → (∀ b ∈ fp, H' b = none) → ∀ b ∈ fp, FpOk Y [] H' b := fun {σ' H' s'} I' hn b hb => by
    subst hY
    exact ⟨hn b hb, (I'.ok.exf b hb).1, I'.ok.exfs b hb, .inl hb, fun x c e => (I'.ok.exf b hb).2 x c e, fun p hp => absurd (show p ∈ ([] : List (Addr × Obj)) ++ [] from hp) (by simp)⟩
  let P : Nat → Shared → Prop := fun n s' => ∃ i H', Inv Y [] (wipe σ (own.map (·.2))) H' s' ∧ tn i s'.heap ∧ (∀ b ∈ fp, H' b = none) ∧ W i n H'
  have loop : codeAny (model X.prog X.w) X.A (.compLoop (DC2 kx vx tg iter tg1 iter1 scope pos) 0 (.ref it) (.ref D) ce) (compPost (model X.prog X.w) X.A X.xe use Qf (.ref D) s3.heap.objs.size) s4 := by
    refine loopA (hs1 ce) P ?_ m0 ⟨0, H3, I4, st4, nfp, w0⟩
    rintro n s5 ⟨i, H5, I5, st5, n5, w5⟩
    rcases turn i n H5 w5 with ⟨stop, qq⟩ | ⟨go, Nx, hNx, step⟩
    · have td := T.done Y yp yw yK yc i [] s5 _ H5 (fun _ _ => False) I5 (stat I5 n5) st5 stop
      rw [yA] at td
      refine thnF td fun r s6 ⟨hr, I6⟩ => ?_
      subst hr
      subst hY
      have I7 : Inv X pins σ H5 s6 := I3.call' (ch := fp) I6.os I6.base I6.hok I6.bare fun b hb => ⟨(f3 b hb).1.2.2.2.1, (f3 b hb).1.2.1, (f3 b hb).1.2.2.2.2.1, (f3 b hb).1.2.2.2.2.2⟩
      have nC : H5 s3.heap.objs.size = none := cL ▸ I6.free
      obtain ⟨m, hn, _⟩ := I6.loc
      have hn : s6.heap.Ns ce.locals m := hn
      rw [cL] at hn
      exact hRR D s3.heap.objs.size s6 m H5 I7 qq hn (I3.fpOk (Nat.le_refl _) nC)
    · have ti := T.item Y yp yw yK yc i [] s5 _ H5 (fun _ _ => False) I5 (stat I5 n5) st5 go
      rw [yA] at ti
      refine thnF ti fun r s6 ⟨u, hr, h6⟩ => ?_
      subst hr
      refine thnF h6 fun _ s7 ⟨x, H7, I7, r7, y7, st7, n7⟩ => ?_
      have I7' := I7.pinned (stat I7 n7) (T.obj _ _ st7)
      have r8 := pg.run _ s7 _ H7 x u _ I7' r7 (step x H7 y7)
      rw [yp, yw, yA, ye, yx] at r8
      refine thnF r8 fun _ s8 ⟨σ8, H8, I8, hw8, q8⟩ => ?_
      have fin : ∀ {σ9 : L2.St} {s' : Shared} {H' : Hp}, Inv Y ([] ++ pinsAt fp s7.heap) σ9 H' s' → (wipe σ (own.map (·.2))).length = σ9.length → (∀ (j : Nat) v, (wipe σ (own.map (·.2)))[j]? = some (some v) → σ9[j]? = some (some v)) → Nx H' → ∃ m, m < n ∧ P m s' := fun {σ9 s' H'} I' hl hk nx => by
        obtain ⟨m', hm, w'⟩ := hNx H' nx
        have pin' : ∀ b ∈ fp, ∀ o, s7.heap.get? b = some o → s'.heap.get? b = some o ∧ H' b = none := fun b hb o e =>
          ⟨(I'.pin (b, o) (List.mem_append_right _ (List.mem_append_right _ (mem_pinsAt hb e)))).1, (I'.pin (b, o) (List.mem_append_right _ (List.mem_append_right _ (mem_pinsAt hb e)))).2.1⟩
        refine ⟨m', hm, i + 1, H', (I'.unpinned (pins := [])).weak hl hk, T.keep _ _ _ st7 fun b hb o e => (pin' b hb o e).1, fun b hb => ?_, w'⟩
        obtain ⟨o, e, _⟩ := T.obj _ _ st7 b hb
        exact (pin' b hb o e).2
      have hl8 : (wipe σ (own.map (·.2))).length = σ8.length := by rw [← hw8, wipe_length]
      have hk9 : ∀ (j : Nat) v, (wipe σ (own.map (·.2)))[j]? = some (some v) → (wipe σ8 vs1)[j]? = some (some v) := fun j v e => by
        rw [← hw8] at e
        obtain ⟨e1, e2⟩ := wipe_some e
        rw [wipe_out fun z => e2 (hv j z)]
        exact e1
      have r10 := pi1.run _ s8 σ8 H8 _ I8 q8
      rw [yp, yw, yA, ye, yx] at r10
      refine thnF r10 fun xv s10 hx => thnF hx fun itv s11 h11 => ?_
      obtain ⟨it1, fp1, tn1, J1, H11, e1, I11, T1, st11, f11, W1, ⟨m1, w1⟩, turn1⟩ := h11
      subst e1
      have stat1 : ∀ {H' : Hp}, (∀ b ∈ fp1, H' b = none) → ∀ b ∈ fp1, FpOk Y ([] ++ pinsAt fp s7.heap) H' b := fun hn b hb => ⟨hn b hb, (f11 b hb).2⟩
      rw [yp, yw, yK] at T1
      have loop1 : codeAny (model X.prog X.w) X.A (.compLoop (DC2 kx vx tg iter tg1 iter1 scope pos) 1 (.ref it1) (.ref D) ce) (fun r s' => match r with
            | .ok _ => ∃ m, m < n ∧ P m s'
            | .error _ => False) s11 := by
        refine loopB (fun k s' => ∃ j H', Inv Y ([] ++ pinsAt fp s7.heap) (wipe σ8 vs1) H' s' ∧ tn1 j s'.heap ∧ (∀ b ∈ fp1, H' b = none) ∧ W1 j k H') ?_ m1 ⟨0, H11, I11.weak (wipe_length _ _) (fun j v e => (wipe_some e).1), st11, fun b hb => (f11 b hb).1, w1⟩
        rintro k s12 ⟨j, H12, I12, st12, n12, w12⟩
        rcases turn1 j k H12 w12 with ⟨stop1, nx1⟩ | ⟨go1, Nx1, hNx1, step1⟩
        · have td := T1.done Y yp yw yK yc j _ s12 (wipe σ8 vs1) H12 (fun _ _ => False) I12 (stat1 n12) st12 stop1
          rw [yA] at td
          refine thnF td fun r s13 ⟨hr, I13⟩ => ?_
          subst hr
          exact fin I13 (hl8.trans (wipe_length σ8 vs1).symm) hk9 nx1
        · have ti := T1.item Y yp yw yK yc j _ s12 (wipe σ8 vs1) H12 (fun _ _ => False) I12 (stat1 n12) st12 go1
          rw [yA] at ti
          refine thnF ti fun r s13 ⟨u1, hr, h13⟩ => ?_
          subst hr
          refine thnF h13 fun _ s14 ⟨x1, H14, I14, r14, y14, st14, n14⟩ => ?_
          have I14' := I14.pinned (stat1 n14) (T1.obj _ _ st14)
          have r15 := pg1.run _ s14 (wipe σ8 vs1) H14 x1 u1 _ I14' r14 (step1 x1 H14 y14)
          rw [yp, yw, yA, ye, yx] at r15
          refine thnF r15 fun _ s15 ⟨σ15, H15, I15, hw15, q15⟩ => ?_
          have r16 := pk.run _ s15 σ15 H15 _ I15 q15
          rw [yp, yw, yA, ye, yx] at r16
          refine thnF r16 fun z s16 ⟨yk, H16, I16, rk, q16⟩ => ?_
          have r17 := pe.run _ s16 σ15 H16 _ I16 q16
          rw [yp, yw, yA, ye, yx] at r17
          refine thnF r17 fun z2 s17 ⟨yv, H17, I17, rv, kvs, kk, ek, hD17, hz17, nx⟩ => ?_
          subst ek
          have d := d_dictSet (X := Y) (E := fun _ _ => False) (Q := fun _ s' => ∃ m, m < k ∧ ∃ j H', Inv Y ([] ++ pinsAt fp s7.heap) (wipe σ8 vs1) H' s' ∧ tn1 j s'.heap ∧ (∀ b ∈ fp1, H' b = none) ∧ W1 j m H') I17 hD17 hz17 rk rv fun s18 I18 => by
            obtain ⟨m', hm, w'⟩ := hNx1 _ nx
            have pin' : ∀ b ∈ fp1, ∀ o, s14.heap.get? b = some o → s18.heap.get? b = some o ∧ upd H17 D (.dK (putK kvs kk yv)) b = none := fun b hb o e =>
              ⟨(I18.pin (b, o) (List.mem_append_right _ (List.mem_append_right _ (mem_pinsAt hb e)))).1, (I18.pin (b, o) (List.mem_append_right _ (List.mem_append_right _ (mem_pinsAt hb e)))).2.1⟩
            refine ⟨m', hm, j + 1, _, I18.unpinned.weak (by rw [← hw15, wipe_length]) (fun j v e => by rw [← hw15] at e; exact (wipe_some e).1), T1.keep _ _ _ st14 fun b hb o e => (pin' b hb o e).1, fun b hb => ?_, w'⟩
            obtain ⟨o, e, _⟩ := T1.obj _ _ st14 b hb
            exact (pin' b hb o e).2
          rw [yp, yw, yA] at d
          exact thnF d fun _ _ z => z
      exact startB loop1 (T1.self X.A 0 _ _ _ st11 loop1)
  exact startA loop (T.self X.A 0 _ _ _ st4 loop)
theorem pe_dc2 {kx vx tg iter tg1 iter1 : Expr} {scope : Scope} {own : List (Str × Nat)} {vs1 : List Nat} {pos : Pos} {wi wi1 : TI} {g g1 : TG} {tk tv : TE} (hc : X.calm = true) (hN : X.N.Nodup) (hi : PI X tg iter wi) (ok : BlkOk X.N X.env.scope scope own) (hv : ∀ i ∈ vs1, i ∈ own.map (·.2))
    (hg : AllB X scope fun Y => PG Y tg g) (hi1 : AllB X scope fun Y => PI Y tg1 iter1 wi1) (hg1 : AllB X scope fun Y => PG Y tg1 g1) (hk : AllB X scope fun Y => PE Y kx tk) (he : AllB X scope fun Y => PE Y vx tv)
    (hs : ∀ x, foldedSetIterable iter X.env x = pure x := by intro _; rfl) (hs1 : ∀ env x, foldedSetIterable iter1 env x = pure x := by intro _ _; rfl) : PE X (DC2 kx vx tg iter tg1 iter1 scope pos) (tDc2 wi g wi1 g1 tk tv (own.map (·.2)) vs1) := by
  refine ⟨fun pins s σ H Q I h => ?_⟩
  rw [arm_eval_DictComp]
  refine dc2_core hc hN I hi ok hv hg hi1 hg1 hk he hs hs1 h fun D C s' m H' I' q hn f => ⟨m, hn, fun h'' sb => ?_⟩
  obtain ⟨f0, f1, f2, f3, f4, f5⟩ := f
  exact ⟨.ref D, H', I'.turned (t' := s'.toks) (fun b o hb e => (sb.2 b hb).trans e) f0 f1 f3 f4 f5, rfl, q⟩
end
end DL

set_option Elab.async false
set_option linter.all false
set_option maxRecDepth 100000
/-! set(xs) of a list of ints, so that it can be walked (the layer has it of a tuple). -/
namespace DL
open PySem PySem.Spec PyProof.Rows L2
/-- the empty set as it is laid -/
abbrev newSet (w : World) : Obj := { cls := .type "set", dict := none, data := .set #[] 0 (.fresh 0 0 (!w.params.followText "set-order")) }
section
variable {P : Program} {w : World} {A : Around} {E : Value → Shared → Prop} {s : Shared}
set_option maxHeartbeats 3200000 in
theorem set_of_list {l : Addr} {items : Array Value} (ns : List Int) {Q : Value → Shared → Prop} (hh : A.handled = none) (hl : s.heap.IsList l items) (hit : IntsAre items.toList ns) (hb : ns.length + 1 < scanBound)
    (h : ∀ (h' : Heap) (tk c : Nat), SetR w h' s.heap.objs.size (fun j => decide (j ∈ ns)) c → c ≤ ns.length → (∀ b o, s.heap.get? b = some o → h'.get? b = some o) → Q (.ref s.heap.objs.size) { s with heap := h', toks := tk }) :
    wpAny (model P w) A (call (.type "set") [.ref l]) Q E s := by
  have hisz : items.size = ns.length := by simpa using IntsAre.length hit
  obtain ⟨c, tl, hmro⟩ := F.called_set.mro
  have hmade := F.called_set.made
  have hsub := F.called_set.sub
  refine wpAny_call (codeAny_of_tree (show wpAny _ _ (callAny (.type "set") _) _ _ _ from wpAny_pure ⟨Code.quiet_builtin _ (by decide +kernel), codeAny_builtin F.entry_type_call ?_⟩))
  rw [Around.under_plain (weight_type_call_type "set" [.ref l] []) rfl]
  have h1 := F.called_set.notType
  have h2 := F.called_set.canCreate
  have hct := F.typeCall_set_1 (.ref l)
  repeat (any_goals (first | assumption | wp_step))
  refine codeAny_mono (code_set_led1 (.ref l) (E := E) (Q₁ := fun obj s1 => obj = .ref s.heap.objs.size ∧ s1 = { s with heap := s.heap.push (newSet w) }) ⟨rfl, rfl⟩) fun r s1 hr => ?_
  cases r with
  | error e => exact hr
  | ok fl => cases fl with
    | ret obj =>
      obtain ⟨rfl, rfl⟩ := hr
      have hS : (s.heap.push (newSet w)).get? s.heap.objs.size = some (newSet w) := Heap.get?_push_size _ rfl
      have hT : Shared.TypeIs { s with heap := s.heap.push (newSet w) } (.ref s.heap.objs.size) "set" := ⟨_, hS, rfl⟩
      have hli := F.called_set.init.lookup
      have hbi := F.called_set.init.bind (.ref s.heap.objs.size)
      repeat (any_goals (first | assumption | wp_step))
      refine codeAny_mono (codeAny_call_builtin (R := wants (fun r s2 => r = .none ∧ ∃ h' tk c, s2 = { s with heap := h', toks := tk } ∧ SetR w h' s.heap.objs.size (fun j => decide (j ∈ ns)) c ∧ c ≤ ns.length ∧ (∀ b o, s.heap.get? b = some o → h'.get? b = some o)) E) F.called_set.init.plain F.entry_set_init (check_set_init_1 hT ?_)) fun r2 s2 hr2 => ?_
      · obtain ⟨⟨ocls, odict, odata, oslots⟩, hol, hcl, nl, hdl⟩ := hl
        simp only at hcl hdl
        subst hcl; subst hdl
        have hol' : (s.heap.push (newSet w)).get? l = some { cls := .type "list", dict := odict, data := .seq items nl, slots := oslots } := Heap.get?_push_of_some _ hol
        have hsls := F.sub_list_set
        have hslf := F.sub_list_frozenset
        have hne : (Value.type "list" == Value.type "dict") = false := by decide
        have hl1 : (s.heap.push (newSet w)).IsList l items := ⟨_, hol', rfl, nl, rfl⟩
        unfold Builtin.«set.__init__» noKeywords Builtin.Frozenset.updateFrom
        generalize hPI : pyIter = PI
        wp_walk
        subst hPI
        refine wpAny_pyIter_list hl1 (wpAny_bind (wpAny_runValue ?_))
        have hlS : l < s.heap.objs.size := Heap.lt_size hol
        have hh3 : A.in1.in1.in1.handled = none := by simp [hh]
        have sz1 : (s.heap.push (newSet w)).objs.size = s.heap.objs.size + 1 := Heap.size_push ..
        have hneI : l ≠ (s.heap.push (newSet w)).objs.size := by rw [sz1]; exact Nat.ne_of_lt (Nat.lt_succ_of_lt hlS)
        have hSf : s.heap.objs.size ∉ [(s.heap.push (newSet w)).objs.size, l] := by
          rw [sz1]
          intro z
          rcases List.mem_cons.mp z with z | z
          · exact absurd z (Nat.ne_of_lt (Nat.lt_succ_self _))
          · exact absurd (List.mem_singleton.mp z) (Nat.ne_of_gt hlS)
        have hval : ∀ (i : Nat) (v : Value), items[i]? = some v → ∃ k t, ns[i]? = some k ∧ v = .int k t := fun i v hv => by
          have hi : i < ns.length := by rw [← hisz]; exact (Array.getElem?_eq_some_iff.mp hv).1
          obtain ⟨t, e⟩ := PyProof.Rows.IntsAre.int_at hit i v (by rw [Array.getElem?_toList]; exact hv)
          exact ⟨ns[i], t, List.getElem?_eq_getElem hi, by rw [e, List.getD_eq_getElem?_getD, List.getElem?_eq_getElem hi] <;> rfl⟩
        refine set_update_ints ((Walks.list hh3 _ l hneI items).toS) s.heap.objs.size hSf ns hisz hb hval (items.size - 0) 0 _ (by omega) (Nat.zero_le _) ⟨⟨_, Heap.get?_push_size _ rfl, rfl, rfl⟩, (hl1.push _)⟩ ?hBeg ?hFin
        case hBeg => exact ⟨0, Nat.le_refl 0, setR_new_at (Heap.get?_push_of_some _ hS)⟩
        case hFin =>
          intro s' c' hm hc' hS'
          obtain ⟨h', g2, d', tk', os'⟩ := s'
          have eg : g2 = s.gens := hm.gens
          have ed : d' = s.drawn := hm.drawn
          have eo : os' = s.os := hm.os
          subst eg; subst ed; subst eo
          refine show wpAny _ _ _ _ _ _ from wpAny_pure (show wpAny _ _ (ret Value.none) _ _ _ from ?_)
          refine wpAny_pure ⟨rfl, h', tk', c', rfl, hS', by rw [← hisz]; exact hc', fun b o e => hm.heap b o (fun z => ?_) (Heap.get?_push_of_some _ (Heap.get?_push_of_some _ e))⟩
          have hb0 : b < s.heap.objs.size := Heap.lt_size e
          rcases List.mem_cons.mp z with z | z
          · exact absurd z (Nat.ne_of_lt hb0)
          · rw [sz1] at z
            exact absurd (List.mem_singleton.mp z) (Nat.ne_of_lt (Nat.lt_succ_of_lt hb0))
      · cases r2 with
        | error e => exact hr2
        | ok fl2 => cases fl2 with
          | ret r =>
            obtain ⟨rfl, h', tk, c', rfl, hS', hc', hk'⟩ := hr2
            repeat (any_goals (first | assumption | wp_step))
            exact h _ _ _ hS' hc' hk'
          | _ => exact hr2.elim
    | _ => exact hr.elim
end
/-- set(x), x a list or a tuple of ints -/
def rSetInts (K : PySem.W.Frag) (w : World) : List V → Hp → VK → Prop := fun xs H Q => ∃ (a : Addr) (ns : List Int), xs = [V.ref a] ∧ (SqL K H a (ns.map V.int) ∨ SqT K H a (ns.map V.int)) ∧ ns.length ≤ 1000 ∧
  ∀ p n, H p = none → n ≤ ns.length → Q (.ref p) (upd H p (SetO w p (fun j => decide (j ∈ ns)) n))
theorem cr_setInts {X : Cx} (hc : X.calm = true) : CallR X (.type "set") (rSetInts X.K X.w) := by
  intro pins s σ H xs us Q I r h
  obtain ⟨a, ns, rfl, hq, hl, q⟩ := h
  rw [Vals.ref1 r]
  have hb : ns.length + 1 < scanBound := by unfold scanBound; omega
  have fin : ∀ (h' : Heap) (tk c : Nat), SetR X.w h' s.heap.objs.size (fun j => decide (j ∈ ns)) c → c ≤ ns.length → (∀ b o, s.heap.get? b = some o → h'.get? b = some o) → EP X pins σ Q (.ref s.heap.objs.size) { s with heap := h', toks := tk } := fun h' tk c R hcn k =>
    ⟨.ref _, upd H s.heap.objs.size (SetO X.w s.heap.objs.size (fun j => decide (j ∈ ns)) c), I.laid (t' := tk) k (Nat.le_refl _) (setO_new R), rfl, q _ c (I.hok.fresh (Nat.le_refl _)) hcn⟩
  rcases hq with hq | hq
  · obtain ⟨its, rv, pl, hz⟩ := I.list hq
    exact set_of_list ns (I.ok.hd hc) pl.isList (by simpa using rv.ints) hb fin
  · obtain ⟨its, rv, pl, hz⟩ := I.tuple hq
    exact call_set_tupI ns (I.ok.hd hc) (show s.heap.IsTuple a its.toArray from pl) (by simpa using rv.ints) hb fin
end DL

set_option Elab.async false
set_option linter.all false
set_option maxRecDepth 100000
/-! for i, x in enumerate(t), t a tuple -/
namespace DL
open PySem PySem.Spec PyProof.Rows L2
abbrev itOb (t : Addr) : Obj := { cls := .type "tuple_iterator", data := .fields #[.ref t, .int 0 0] }
abbrev enOb (it : Addr) : Obj := { cls := .type "enumerate", data := .fields #[.none, .bool false, .ref it, rawInt 0, .none, .none] }
set_option maxHeartbeats 1000000 in
theorem enum_new (t : Addr) (items : Array Value) (n : Nat) (dct : Option Addr) (sl : Array (Option Value)) :
    Meets (Builtin.«enumerate.__new__» ⟨[.type "enumerate", .ref t], []⟩) (fun _ R s => s.heap.get? t = some { cls := .type "tuple", dict := dct, data := .seq items n, slots := sl } ∧
      R (.ok (.ret (.ref (s.heap.push (itOb t)).objs.size))) { s with heap := (s.heap.push (itOb t)).push (enOb s.heap.objs.size) }) :=
  .of_wp fun prog w A R s h => by
    obtain ⟨hp, g, d, tk, os⟩ := s
    obtain ⟨ht, h⟩ := h
    have hsub := sub_enumerate
    have hT : Heap.IsTuple (Shared.heap ⟨hp, g, d, tk, os⟩) t items := ⟨_, ht, rfl, n, rfl⟩
    wp_walk using AutoSeq1.wpAny_loadPart' ht
    refine wpAny_stack_any fun st => wpAny_pure ?_
    split
    · rename_i c _ _ _ _ _
      cases (c == Value.type "enumerate") <;> (wp_walk using AutoSeq1.wpAny_loadPart' ht, wpAny_pyIter_tuple hT; exact ⟨_, rfl, h⟩)
    · wp_walk using AutoSeq1.wpAny_loadPart' ht, wpAny_pyIter_tuple hT
      exact ⟨_, rfl, h⟩
section
variable {prog : Program} {w : World} {A : Around} {E : Value → Shared → Prop} {s : Shared}
theorem enum_call {t : Addr} {items : Array Value} {Q : Value → Shared → Prop} (hT : s.heap.IsTuple t items)
    (h : ∀ h', IsEnum h' (s.heap.objs.size + 1) s.heap.objs.size 0 .none → h'.IsTupleIter s.heap.objs.size t 0 → (∀ b o, s.heap.get? b = some o → h'.get? b = some o) → Q (.ref (s.heap.objs.size + 1)) { s with heap := h' }) : wpAny (model prog w) A (call (.type "enumerate") [.ref t]) Q E s := by
  obtain ⟨⟨c, dct, dt, sl⟩, ht, hc, n, hd⟩ := hT
  replace hc : c = .type "tuple" := hc
  replace hd : dt = .seq items n := hd
  subst hc hd
  refine callType_new F.called_enumerate (by decide) (F.typeCall_enumerate_1 _) (F.newCall_enumerate_1 _) (fun obj => F.args_object_init_2 obj _) F.entry_enumerate_new (enum_new t items n dct sl) ⟨ht, ?_⟩
  have hz : (s.heap.push (itOb t)).objs.size = s.heap.objs.size + 1 := Heap.size_push ..
  show _ ∧ _
  rw [hz]
  have he : IsEnum ((s.heap.push (itOb t)).push (enOb s.heap.objs.size)) (s.heap.objs.size + 1) s.heap.objs.size 0 .none := by
    have := Heap.get?_push_size (s.heap.push (itOb t)) (o := enOb s.heap.objs.size) rfl
    rw [hz] at this
    exact this
  exact ⟨⟨_, he, rfl⟩, h _ he ⟨_, Heap.get?_push_of_some _ (Heap.get?_push_size _ rfl), rfl, rfl⟩ fun b o x => Heap.get?_push_of_some _ (Heap.get?_push_of_some _ x)⟩
end
/-- the tuple at a, each item in a new pair -/
def ItE (K : PySem.W.Frag) (a : Addr) : It :=
  ⟨fun i H => ∃ (xs : List V) (x : V), SqT K H a xs ∧ xs[i]? = some x, fun i H v H' => ∃ T x, v = .ref T ∧ H T = none ∧ H' = upd H T (.tup [.int (i : Nat), x]) ∧ ∀ xs, SqT K H a xs → xs[i]? = some x, fun i H => ∃ xs : List V, SqT K H a xs ∧ xs.length = i⟩
theorem turn_E {P : Program} {w : World} {K : PySem.W.Frag} {elts : List Expr} {kk : Nat} {tpos : Pos} (a e it : Addr) (hai : a ≠ it) (hae : a ≠ e) :
    Turn P w K (.Tuple elts kk tpos) (ItE K a) [e, it] e (fun i h => (∃ old, IsEnum h e it ((i : Nat) : Int) old) ∧ h.IsTupleIter it a i ∧ e ≠ it) where
  mem := by simp
  obj := fun i h st b hb => by
    obtain ⟨⟨old, he⟩, ⟨o, ho, hc, hd⟩, _⟩ := st
    rcases List.mem_cons.mp hb with z | z
    · rw [z]; exact ⟨_, he, fun v q => nomatch q⟩
    · rw [List.mem_singleton.mp z]; exact ⟨o, ho, fun v q => by rw [hd] at q; cases q⟩
  keep := fun i h h' st k => let ⟨⟨old, he⟩, hi, hne⟩ := st; ⟨⟨old, k e (by simp) _ he⟩, hi.at fun o q => k it (by simp) o q, hne⟩
  item := by
    intro X hP hw hK hc i pins s σ H E I hf st hg
    subst hP hw hK
    obtain ⟨⟨old, he⟩, hit, hne⟩ := st
    obtain ⟨xs, x, hq, hx⟩ := hg
    obtain ⟨its, rv, p, hz⟩ := I.tuple hq
    obtain ⟨u, hu, ru⟩ := rv.get hx
    have hel : e < s.heap.objs.size := Heap.lt_size he
    have hil : it < s.heap.objs.size := by obtain ⟨_, q, _⟩ := hit; exact Heap.lt_size q
    have Dr := Draws.tuple (prog := X.prog) (w := X.w) (A := X.A.in1) (by simpa using I.ok.hd hc) it a hai its.toArray
    have hi : i < its.toArray.size := by
      have := (List.getElem?_eq_some_iff.mp hu).1
      simpa using this
    refine wpAny_pyNext_enum_itemD Dr he ⟨hit, show s.heap.IsTuple a its.toArray from p⟩ hi hne (by simp [hne, Ne.symm hae]) fun x' h' tk hP ho hit' hT hsz hk => ?_
    have ex : x' = u := by
      have hP : its.toArray[i]? = some x' := hP
      have : its.toArray[i]? = some u := by simpa using hu
      rw [this] at hP
      exact (Option.some.inj hP).symm
    subst ex
    refine ⟨_, rfl, wpAny_letOwnedTupleGo_enum (s := { s with heap := h', toks := tk + 1 }) ho fun h'' he' sb => ?_⟩
    have hT2 : h''.get? s.heap.objs.size = some { cls := .type "tuple", data := .seq #[.int i tk, x'] } := (sb.2 _ (Nat.ne_of_gt hel)).trans hT
    have new : ObjOk X.prog X.w (upd H s.heap.objs.size (.tup [.int (i : Nat), x])) h'' s.heap.objs.size (.tup [.int (i : Nat), x]) :=
      ⟨by show 2 ≤ sizeLine; decide, [.int i tk, x'], .cons ⟨_, rfl⟩ (.cons ru .nil), ⟨_, hT2, rfl, _, rfl⟩⟩
    have I1 := I.turnedNew (t' := tk + 1) (ch := [e, it]) (fun b ob hb q => (sb.2 b (fun z => hb (by simp [z]))).trans (hk b ob (fun z => hb (by simp [z])) (fun z => hb (by simp [z])) q)) hf (Nat.le_refl _) new
    refine ⟨.ref s.heap.objs.size, _, I1, rfl, ⟨_, x, rfl, I.hok.fresh (Nat.le_refl _), rfl, fun ys hy => by rw [I.tuple_inj hy hq]; exact hx⟩, ⟨⟨x', ?_⟩, hit'.1.at fun o q => (sb.2 it (Ne.symm hne)).trans q, hne⟩, fun b hb => ?_⟩
    · have e1 : ((i + 1 : Nat) : Int) = (i : Int) + 1 := by omega
      rw [e1]; exact he'
    · have hb' : b < s.heap.objs.size := by
        rcases List.mem_cons.mp hb with z | z
        · rw [z]; exact hel
        · rw [List.mem_singleton.mp z]; exact hil
      rw [upd_ne (Nat.ne_of_lt hb')]
      exact (hf b hb).1
  done := by
    intro X hP hw hK hc i pins s σ H E I hf st hg
    subst hP hw hK
    obtain ⟨⟨old, he⟩, hit, hne⟩ := st
    obtain ⟨xs, hq, hx⟩ := hg
    obtain ⟨its, rv, p, hz⟩ := I.tuple hq
    obtain ⟨f0, f1, f2, f3, f4, f5⟩ := hf it (by simp)
    have Dr := Draws.tuple (prog := X.prog) (w := X.w) (A := X.A.in1) (by simpa using I.ok.hd hc) it a hai its.toArray
    have hn : its.toArray.size = i := by rw [List.size_toArray, ← rv.length, hx]
    exact wpAny_pyNext_enum_endD Dr he ⟨by rw [hn]; exact hit, show s.heap.IsTuple a its.toArray from p⟩ fun h' eb => ⟨rfl, I.turned (t' := s.toks) (fun b o hb q => eb b o hb q) f0 f1 f3 f4 f5⟩
  self := fun A i s Q E st h => let ⟨⟨_, he⟩, _⟩ := st; wpAny_pyIter_enum he h
def iEnumT (K : PySem.W.Frag) (ta : TA) : TI := fun σ H R => ta σ H fun vs H1 => ∃ a xs, vs = [.ref a] ∧ SqT K H1 a xs ∧ R (ItE K a) H1
theorem pi_enumT {X : Cx} {e : Expr} {ta : TA} {p pos tpos : Pos} {elts : List Expr} {kk : Nat} (hg : Gl X "enumerate") (hm : X.mg "enumerate" = none) (ha : PA X [e] ta) (hs : starEach [e] X.env = [(false, eval e X.env)] := by rfl) :
    PI X (.Tuple elts kk tpos) (.Call (.Name "enumerate" p) [e] [] pos) (iEnumT X.K ta) := by
  refine ⟨fun pins s σ H R I h => Call_ (ld_blt I hg hm boot_enumerate (PyProof.Rows.callWith_type1 (thn (ha.run pos pins s σ H _ I h) fun us s1 ⟨vs, H1, I1, r1, q1⟩ => ?_) hs rfl))⟩
  obtain ⟨a, xs, ex, hq, q⟩ := q1
  subst ex
  rw [Vals.ref1 r1]
  obtain ⟨its, rv, p', hz⟩ := I1.tuple hq
  have hlt : a < s1.heap.objs.size := by obtain ⟨o, ho, _⟩ := id p'; exact Heap.lt_size ho
  refine enum_call (show s1.heap.IsTuple a its.toArray from p') fun h' he hit hk => wpAny_pyIter_enum he ?_
  refine ⟨s1.heap.objs.size + 1, [s1.heap.objs.size + 1, s1.heap.objs.size], _, _, H1, rfl, I1.kept (t' := s1.toks) hk, turn_E a (s1.heap.objs.size + 1) s1.heap.objs.size (Nat.ne_of_lt hlt) (Nat.ne_of_lt (Nat.lt_succ_of_lt hlt)), ⟨⟨.none, he⟩, hit, Nat.succ_ne_self _⟩, fun b hb => ?_, q⟩
  have hle : s1.heap.objs.size ≤ b := by
    rcases List.mem_cons.mp hb with z | z
    · rw [z]; exact Nat.le_add_right _ _
    · rw [List.mem_singleton.mp z]; exact Nat.le_refl _
  exact I1.fpOk hle (I1.hok.fresh hle)
end DL

set_option Elab.async false
set_option linter.all false
set_option maxRecDepth 100000
set_option maxHeartbeats 2000000
/-! list(text): raw. -/
namespace DR
open PySem PySem.Spec PySem.Calls PyProof.Rows PySem.W
section
variable {prog : Program} {w : World} {A : Around} {E : Value → Shared → Prop} {s : Shared} {x : Str} {t : Tok}
theorem hint_str {Q : Bool → Shared → Prop} (h : Q false s) : wpAny (model prog w) A (Builtin.List.listLengthHint (.str x t)) Q E s := by
  unfold Builtin.List.listLengthHint
  refine wpAny_bind (wpAny_specialOf (typeIs_str s x t) PySem.F.slot_str_len.lookup ?_)
  generalize hid : ("str.__len__" : String) = id0
  wp_delta
  rw [show splitId id0 = some ("str", "__len__") from by subst hid; decide +kernel]
  subst hid
  refine wpAny_bind (wpAny_isInstance (T := "str") (b := true) (typeIs_str s x t) (by rw [isSubtype_type]; kernel_rfl) ?_)
  refine wpAny_ite_split (fun hab => absurd hab (by decide)) (fun _ => ?_)
  refine wpAny_ite_split (fun _ => ?_) (fun hab => absurd (by decide +kernel) hab)
  refine wpAny_bind (wpAny_typeOf (typeIs_str s x t) ?_)
  exact wpAny_pure h
theorem lstr_extend {R : Result → Shared → Prop} (hh : A.handled = none) (S : Addr) (res : Value) (c₀ : Nat) (hS : s.heap.get? S = some { cls := .type "list", data := .seq #[] c₀ })
    (hR : ∀ h' tk acc' c', (∀ b o, b ≠ S → s.heap.get? b = some o → h'.get? b = some o) → h'.get? S = some { cls := .type "list", dict := none, data := .seq acc' c', slots := #[] } → ItemsOf (SignAt x) acc' x.cps.size → R (.ok (.ret res)) { s with heap := h', toks := tk }) (hn : x.cps.size ≤ sizeLine) :
    wpAny (model prog w) A.in1 (Builtin.List.listExtendWith (.ref S) (.str x t) res)
      (fun fin s' => match fin with | .done f => R (.ok f) s' | .again c' => c'.quiet = true ∧ codeAny (model prog w) A c' R s') (fun e s' => R (.error e) s') s := by
  have hSI : S ≠ s.heap.objs.size := Nat.ne_of_lt (Heap.lt_size hS)
  have hSf : S ∉ [s.heap.objs.size] := by simp only [List.mem_cons, List.not_mem_nil, or_false]; exact hSI
  unfold Builtin.List.listExtendWith
  refine wpAny_bind (wpAny_typeOf (T := "str") (typeIs_str s x t) ?_)
  have h1 : Builtin.List.listSameRef (.ref S) (.str x t) = false := by simp [Builtin.List.listSameRef]
  have h2 : (Value.type "str" == Value.type "list") = false := by decide
  have h3 : (Value.type "str" == Value.type "tuple") = false := by decide
  simp only [h1, h2, h3, Bool.or_false, Bool.false_eq_true, if_false]
  refine wpAny_bind (wpAny_pyIter_str fun oI St WA st => ?_)
  have W := WA A.in1 hh
  have key : ∀ (h : Heap) (c₁ tk : Nat), St 0 h → (∀ b o, b ≠ S → s.heap.get? b = some o → h.get? b = some o) →
      h.get? S = some { cls := .type "list", data := .seq #[] c₁ } → codeAny (model prog w) A (.builtin "list.extend.loop" ⟨[.ref S, .ref s.heap.objs.size, res], []⟩) R { s with heap := h, toks := tk } := by
    intro h c₁ tk hst hk hS₁
    refine codeAny_extend_loopS W.toS hn S hSf res x.cps.size 0 _ #[] c₁ rfl (Nat.zero_le _) hst hS₁ (ItemsOf.nil _) fun s' acc' c' hm hS' hacc => ?_
    rw [Moved.eq_with hm]
    refine hR s'.heap s'.toks acc' c' (fun b o hb e => hm.heap b o (fun hmem => ?_) (hk b o hb e)) hS' hacc
    rcases List.mem_cons.mp hmem with e' | hmem
    · exact hb e'
    · exact absurd (Heap.lt_size e) (by rw [List.mem_singleton.mp hmem]; exact Nat.lt_irrefl _)
  have hS₁ := Heap.get?_push_of_some oI hS
  refine wpAny_bind (wpAny_holding (hint_str ?_))
  refine wpAny_ite_split (fun hab => absurd hab (by decide)) (fun _ => wpAny_pure ⟨plainId_quiet PySem.F.plain_extend_loop _, key _ c₀ _ st (fun b o _ e => Heap.get?_push_of_some _ e) hS₁⟩)
theorem lstr_init {R : Result → Shared → Prop} (hh : A.handled = none) (S : Addr) (hS : s.heap.get? S = some { cls := .type "list", data := .seq #[] })
    (hR : ∀ h' tk acc' c', (∀ b o, b ≠ S → s.heap.get? b = some o → h'.get? b = some o) → h'.get? S = some { cls := .type "list", dict := none, data := .seq acc' c', slots := #[] } → ItemsOf (SignAt x) acc' x.cps.size → R (.ok (.ret .none)) { s with heap := h', toks := tk }) (hn : x.cps.size ≤ sizeLine) :
    wpAny (model prog w) A.in1 (Builtin.«list.__init__» ⟨[.ref S, .str x t], []⟩)
      (fun fin s' => match fin with | .done f => R (.ok f) s' | .again c' => c'.quiet = true ∧ codeAny (model prog w) A c' R s') (fun e s' => R (.error e) s') s := by
  show wpAny _ _ (do let old ← Builtin.List.listItems (.ref S); Builtin.List.listUpdate (.ref S) (fun _ => #[]); letGo old.toList.reverse; Builtin.List.listExtendWith (.ref S) (.str x t) .none) _ _ s
  refine wpAny_bind ?_
  unfold Builtin.List.listItems
  refine wpAny_bind (wpAny_seqItems hS rfl (wpAny_pure ?_))
  show wpAny _ _ (updateSeq S (fun _ => #[]) >>= fun _ => letGo (#[] : Array Value).toList.reverse >>= fun _ => Builtin.List.listExtendWith (.ref S) (.str x t) .none) _ _ s
  refine wpAny_bind (wpAny_updateSeq hS rfl ?_)
  have hS₂ := Heap.get?_update_self (Obj.mapSeq (fun _ => (#[] : Array Value))) hS rfl
  have oth : ∀ b o, b ≠ S → s.heap.get? b = some o → (s.heap.update S (Obj.mapSeq (fun _ => (#[] : Array Value)))).get? b = some o :=
    fun b o hb e => (Heap.get?_update_other _ _ (Ne.symm hb)).trans e
  refine wpAny_bind (wpAny_letGo ?_)
  refine lstr_extend hh S .none _ hS₂ (fun h' tk acc' c' hk hS' hacc => ?_) hn
  exact hR h' tk acc' c' (fun b o hb e => hk b o hb (oth b o hb e)) hS' hacc
theorem lstr_call {Q : Value → Shared → Prop} (hh : A.handled = none) (hn : x.cps.size ≤ sizeLine)
    (hQ : ∀ h' tk acc' c', (∀ b o, s.heap.get? b = some o → h'.get? b = some o) → h'.get? s.heap.objs.size = some { cls := .type "list", dict := none, data := .seq acc' c', slots := #[] } → ItemsOf (SignAt x) acc' x.cps.size → Q (.ref s.heap.objs.size) { s with heap := h', toks := tk }) :
    wpAny (model prog w) A (call (.type "list") [.str x t]) Q E s := by
  refine callType_codes (Q₁ := fun obj s₁ => obj = .ref s.heap.objs.size ∧ s₁ = { s with heap := s.heap.push { cls := .type "list", data := .seq #[] } }) PySem.F.called_list (PySem.F.typeCall_list_1 _) PySem.F.entry_list_init
    (code_list_new _ ⟨rfl, rfl⟩) fun obj s₁ h₁ => ?_
  obtain ⟨rfl, rfl⟩ := h₁
  have hS : (s.heap.push { cls := .type "list", data := .seq #[] }).get? s.heap.objs.size = some { cls := .type "list", data := .seq #[] } := Heap.get?_push_size _ rfl
  refine ⟨⟨_, hS, rfl⟩, PySem.F.args_list_init_2 _ _, lstr_init (A := A.in1) hh _ hS (fun h' tk acc' c' hk hS' hacc => ?_) hn⟩
  exact ⟨rfl, hQ h' tk acc' c' (fun b o e => hk b o (Nat.ne_of_lt (Heap.lt_size e)) (Heap.get?_push_of_some _ e)) hS' hacc⟩
end
open L2
def signs (z : Str) : List V := z.cps.toList.map fun c => .str ⟨#[c]⟩
theorem call_list_text {X : Cx} (hc : X.calm = true) : CallR X (.type "list") (fun xs H Q => ∃ z, xs = [.str z] ∧ z.length ≤ sizeLine ∧ ∀ p, H p = none → Q (.ref p) (upd H p (.lst (signs z)))) := by
  intro pins s σ H xs us Q I r h
  obtain ⟨z, rfl, hz, q⟩ := h
  obtain ⟨u, rfl, rx⟩ := vals1 r
  obtain ⟨t, rfl⟩ := rx
  refine lstr_call (I.ok.hd hc) hz fun h' tk acc' c' hkeep hS hacc => ?_
  refine ⟨.ref s.heap.objs.size, upd H s.heap.objs.size (.lst (signs z)), I.laid hkeep (Nat.le_refl _) (show ObjOk X.prog X.w _ _ _ (.lst (signs z)) from ⟨?_, acc'.toList, c', ?_, ?_⟩), rfl, q _ (I.hok.fresh (Nat.le_refl _))⟩
  · unfold signs
    rw [List.length_map]
    simpa [Str.length] using hz
  · have el : acc'.toList.length = acc'.size := by simp
    refine vals_of_at (by unfold signs; rw [List.length_map, el, hacc.1]; simp) fun j x w h1 h2 => ?_
    obtain ⟨c, t', hc', hi⟩ := hacc.2 j w (by rw [← Array.getElem?_toList]; exact h2)
    unfold signs at h1
    rw [List.getElem?_map, Array.getElem?_toList, hc'] at h1
    cases h1
    exact ⟨t', hi⟩
  · rw [Array.toArray_toList]; exact hS
end DR

set_option Elab.async false
set_option linter.all false
set_option maxRecDepth 100000
set_option maxHeartbeats 1000000
namespace DL
open PySem L2
open Evl (Ex)
/-- the tables of code objects of the defs that make lambdas; the names of the lambdas that each tells of -/
class Tabs where
  all : List Addr
  nm : Addr → Str
variable [Tabs]

/-! ### results -/
inductive R (α : Type) where
  | ok (a : α) | exc (c : Addr) | bad
namespace R
def bind {α β : Type} (x : R α) (f : α → R β) : R β := match x with
  | .ok a => f a
  | .exc c => .exc c
  | .bad => .bad
def lift {α : Type} : Option α → R α
  | some a => .ok a
  | none => .bad
@[simp] theorem bind_ok {α β : Type} (a : α) (f : α → R β) : (R.ok a).bind f = f a := rfl
@[simp] theorem bind_exc {α β : Type} (c : Addr) (f : α → R β) : (R.exc c : R α).bind f = .exc c := rfl
@[simp] theorem bind_bad {α β : Type} (f : α → R β) : (R.bad : R α).bind f = .bad := rfl
@[simp] theorem lift_some {α : Type} (a : α) : R.lift (some a) = .ok a := rfl
@[simp] theorem lift_none {α : Type} : R.lift (none : Option α) = .bad := rfl
theorem bind_assoc {α β γ : Type} (x : R α) (f : α → R β) (g : β → R γ) : (x.bind f).bind g = x.bind fun a => (f a).bind g := by cases x <;> rfl
end R

/-! ### data -/
/-- a lambda's text: its name, parameters, body, scope; the names that it captures -/
structure Lam where
  id : Nat
  q : Str
  params : Arguments
  body : Expr
  scope : Scope
  names : List Str
/-- a frame: its cells, its names, its scope -/
structure Fr where
  cl : List (Str × Addr)
  N : List Str
  sc : Scope
def celB (sc : Scope) (x : Str) : Bool := match sc.names.lookup x with
  | some .cell => true
  | _ => false
theorem celB_of {sc : Scope} {x : Str} (h : celB sc x = true) : sc.names.lookup x = some .cell := by
  unfold celB at h
  split at h
  · assumption
  · cases h
/-- the captured names stand in these slots, and have cells -/
def fitB (N : List Str) (sc : Scope) : List Str → List Nat → Bool
  | [], [] => true
  | y :: ys, i :: is => decide (N[i]? = some y) && celB sc y && fitB N sc ys is
  | _, _ => false
theorem fitB_len {N : List Str} {sc : Scope} : ∀ {ys : List Str} {ix : List Nat}, fitB N sc ys ix = true → ys.length = ix.length
  | [], [], _ => rfl
  | y :: ys, i :: is, h => by
    unfold fitB at h
    rw [Bool.and_eq_true] at h
    rw [List.length_cons, List.length_cons, fitB_len h.2]
  | [], _ :: _, h => by cases h
  | _ :: _, [], h => by cases h
theorem fitB_at {N : List Str} {sc : Scope} : ∀ {ys : List Str} {ix : List Nat} {j i : Nat} {y : Str}, fitB N sc ys ix = true → ys[j]? = some y → ix[j]? = some i → N[i]? = some y ∧ sc.names.lookup y = some .cell
  | y :: ys, i :: is, 0, _, _, h, e1, e2 => by
    unfold fitB at h
    rw [Bool.and_eq_true, Bool.and_eq_true] at h
    cases e1
    cases e2
    exact ⟨of_decide_eq_true h.1.1, celB_of h.1.2⟩
  | y :: ys, i :: is, j + 1, _, _, h, e1, e2 => by
    unfold fitB at h
    rw [Bool.and_eq_true] at h
    exact fitB_at (j := j) h.2 (by simpa using e1) (by simpa using e2)
  | [], _, _, _, _, _, e1, _ => by simp at e1
  | _ :: _, [], _, _, _, h, _, _ => by cases h
/-- nothing more is told of an object -/
abbrev UO : HO := .ext fun _ => True
/-- the object at f is the lambda l with the cells cl, its code object is told -/
def LamRep (F : Hp) (cl : List (Str × Addr)) (f : Addr) (l : Lam) : Prop :=
  ∃ (pm ctv : Value) (c' : Addr), F f = some (.frz (PySem.W.kla_obj "<lambda>" l.q l.params l.body l.scope (cloFrom cl l.scope.names []) pm c' ctv) UO) ∧ F c' = some (LamX.CodeO c' l.q)
theorem LamRep.ex {F F' : Hp} (e : Ex F F') {cl : List (Str × Addr)} {f : Addr} {l : Lam} (h : LamRep F cl f l) : LamRep F' cl f l := by
  obtain ⟨pm, ctv, c', h1, h2⟩ := h
  exact ⟨pm, ctv, c', e _ _ h1, e _ _ h2⟩
/-- the cells of these names hold these values, and are known -/
structure CellsRep (F : Hp) (cl : List (Str × Addr)) (ys : List Str) (vs : List V) : Prop where
  len : ys.length = vs.length
  at_ : ∀ (i : Nat) y v, ys[i]? = some y → vs[i]? = some v → ∃ (c : Addr) (o : Obj) (u : Value), cl.lookup y = some c ∧ F c = some (.frz o UO) ∧ o.data = .cell (some u) ∧ RelV v u
theorem CellsRep.ex {F F' : Hp} (e : Ex F F') {cl : List (Str × Addr)} {ys : List Str} {vs : List V} (h : CellsRep F cl ys vs) : CellsRep F' cl ys vs := by
  refine ⟨h.len, fun i y v h1 h2 => ?_⟩
  obtain ⟨c, o, u, a, b, d, r⟩ := h.at_ i y v h1 h2
  exact ⟨c, o, u, a, e _ _ b, d, r⟩
inductive D where
  | non | bl (b : Bool) | int (i : Int) | str (x : Str) | ty (n : String) | ref (a : Addr)
  | tup (l : List D) | lst (l : List D) | scr (ns : List Int)
  | dI (ks : List Int) (vs : List D) | dT (ks : List (List Int)) (vs : List D)
  | any
  /-- a lambda with what it captured -/
  | clo (l : Lam) (ds : List D)
  /-- a lambda of the frame fr; the slots that it captures -/
  | fn (fr : Fr) (l : Lam) (ix : List Nat)
  /-- an instance of the class at C that nobody writes: its attributes' names, their values -/
  | ins (C : Addr) (fs : List Str) (ds : List D)

mutual
inductive Rep (K : PySem.W.Frag) (F : Hp) : V → D → Prop
  | non : Rep K F .non .non
  | bl (b : Bool) : Rep K F (.bl b) (.bl b)
  | int (i : Int) : Rep K F (.int i) (.int i)
  | str (x : Str) : Rep K F (.str x) (.str x)
  | ty (n : String) : Rep K F (.ty n) (.ty n)
  | ref (a : Addr) : Rep K F (.ref a) (.ref a)
  | tup {a : Addr} {xs : List V} {ds : List D} : F a = some (.tup xs) → Reps K F xs ds → Rep K F (.ref a) (.tup ds)
  | lst {a : Addr} {xs : List V} {ds : List D} : F a = some (.lst xs) → Reps K F xs ds → Rep K F (.ref a) (.lst ds)
  | scr {a : Addr} {ns : List Int} : SqL K F a (ns.map V.int) → Rep K F (.ref a) (.scr ns)
  | dI {a : Addr} {o : Obj} {kvs : List (Key × V)} {ks : List Int} {ds : List D} : F a = some (.frz o (.dK kvs)) → kvs.map (·.1) = ks.map Sum.inl → Reps K F (kvs.map (·.2)) ds → Rep K F (.ref a) (.dI ks ds)
  | dT {a : Addr} {o : Obj} {kvs : List (List Key × V)} {ks : List (List Int)} {ds : List D} : F a = some (.frz o (.dT kvs)) → kvs.map (·.1) = ks.map (·.map Sum.inl) → Reps K F (kvs.map (·.2)) ds → Rep K F (.ref a) (.dT ks ds)
  | any (v : V) : Rep K F v .any
  | fn {f : Addr} {fr : Fr} {l : Lam} {ix : List Nat} : LamRep F fr.cl f l → fitB fr.N fr.sc l.names ix = true → Rep K F (.ref f) (.fn fr l ix)
  | clo {f : Addr} {cl : List (Str × Addr)} {l : Lam} {vs : List V} {ds : List D} : LamRep F cl f l → (∀ x y c, cl.lookup x = some c → cl.lookup y = some c → x = y) → CellsRep F cl l.names vs → Reps K F vs ds → Rep K F (.ref f) (.clo l ds)
  | ins {a dx C : Addr} {kvs : List (Str × V)} {fs : List Str} {ds : List D} : F a = some (.ins C dx kvs) → F dx = some (.own a) → kvs.map (·.1) = fs → Reps K F (kvs.map (·.2)) ds → Rep K F (.ref a) (.ins C fs ds)
inductive Reps (K : PySem.W.Frag) (F : Hp) : List V → List D → Prop
  | nil : Reps K F [] []
  | cons {v : V} {vs : List V} {d : D} {ds : List D} : Rep K F v d → Reps K F vs ds → Reps K F (v :: vs) (d :: ds)
end

theorem sqL_ex {K : PySem.W.Frag} {F F' : Hp} {a : Addr} {xs : List V} (e : Ex F F') (h : SqL K F a xs) : SqL K F' a xs := Evl.ex_l e h
theorem tT {K : PySem.W.Frag} {F H : Hp} {a : Addr} {xs : List V} (s : Ex F H) (h : F a = some (.tup xs)) : SqT K H a xs := SqT.of (s _ _ h)
theorem sqT_ex {K : PySem.W.Frag} {F F' : Hp} {a : Addr} {xs : List V} (e : Ex F F') (h : SqT K F a xs) : SqT K F' a xs := Evl.ex_t e h

mutual
theorem Rep.ex {K : PySem.W.Frag} {F F' : Hp} (e : Ex F F') : ∀ {v : V} {d : D}, Rep K F v d → Rep K F' v d
  | _, _, .non => .non
  | _, _, .bl b => .bl b
  | _, _, .int i => .int i
  | _, _, .str x => .str x
  | _, _, .ty n => .ty n
  | _, _, .ref a => .ref a
  | _, _, .tup h r => .tup (e _ _ h) (Reps.ex e r)
  | _, _, .lst h r => .lst (e _ _ h) (Reps.ex e r)
  | _, _, .scr h => .scr (sqL_ex e h)
  | _, _, .dI h k r => .dI (e _ _ h) k (Reps.ex e r)
  | _, _, .dT h k r => .dT (e _ _ h) k (Reps.ex e r)
  | _, _, .any v => .any v
  | _, _, .fn h k => .fn (h.ex e) k
  | _, _, .clo h i c r => .clo (h.ex e) i (c.ex e) (Reps.ex e r)
  | _, _, .ins h i c r => .ins (e _ _ h) (e _ _ i) c (Reps.ex e r)
theorem Reps.ex {K : PySem.W.Frag} {F F' : Hp} (e : Ex F F') : ∀ {vs : List V} {ds : List D}, Reps K F vs ds → Reps K F' vs ds
  | _, _, .nil => .nil
  | _, _, .cons r t => .cons (Rep.ex e r) (Reps.ex e t)
end

section
variable {K : PySem.W.Frag} {F : Hp}
theorem Reps.length : ∀ {vs : List V} {ds : List D}, Reps K F vs ds → vs.length = ds.length
  | _, _, .nil => rfl
  | _, _, .cons _ t => by simp [Reps.length t]
theorem Reps.get : ∀ {vs : List V} {ds : List D} {i : Nat} {v : V}, Reps K F vs ds → vs[i]? = some v → ∃ d, ds[i]? = some d ∧ Rep K F v d
  | _, _, _, _, .nil, e => by simp at e
  | _, _, 0, _, .cons r _, e => by simp at e; subst e; exact ⟨_, rfl, r⟩
  | _, _, i + 1, v, .cons _ t, e => by
    obtain ⟨u, h1, h2⟩ := Reps.get (i := i) (v := v) t (by simpa using e)
    exact ⟨u, by simpa using h1, h2⟩
theorem Reps.getd : ∀ {vs : List V} {ds : List D} {i : Nat} {d : D}, Reps K F vs ds → ds[i]? = some d → ∃ v, vs[i]? = some v ∧ Rep K F v d
  | _, _, _, _, .nil, e => by simp at e
  | _, _, 0, _, .cons r _, e => by simp at e; subst e; exact ⟨_, rfl, r⟩
  | _, _, i + 1, v, .cons _ t, e => by
    obtain ⟨u, h1, h2⟩ := Reps.getd (i := i) (d := v) t (by simpa using e)
    exact ⟨u, by simpa using h1, h2⟩
theorem Reps.append : ∀ {vs us : List V} {ds es : List D}, Reps K F vs ds → Reps K F us es → Reps K F (vs ++ us) (ds ++ es)
  | _, _, _, _, .nil, s => s
  | _, _, _, _, .cons r t, s => .cons r (Reps.append t s)
theorem Reps.take : ∀ {vs : List V} {ds : List D} (n : Nat), Reps K F vs ds → Reps K F (vs.take n) (ds.take n)
  | _, _, 0, _ => .nil
  | _, _, _ + 1, .nil => .nil
  | _, _, n + 1, .cons r t => .cons r (Reps.take n t)
theorem Reps.drop : ∀ {vs : List V} {ds : List D} (n : Nat), Reps K F vs ds → Reps K F (vs.drop n) (ds.drop n)
  | _, _, 0, r => r
  | _, _, _ + 1, .nil => .nil
  | _, _, n + 1, .cons _ t => Reps.drop n t
theorem Reps.ints : ∀ (ns : List Int), Reps K F (ns.map V.int) (ns.map D.int)
  | [] => .nil
  | n :: r => .cons (.int n) (Reps.ints r)
theorem Reps.of_ints : ∀ {ns : List Int} {vs : List V}, Reps K F vs (ns.map D.int) → vs = ns.map V.int
  | [], _, .nil => rfl
  | n :: r, _, .cons (.int _) t => by rw [Reps.of_ints t]; rfl
theorem Reps.bls : ∀ (ns : List Bool), Reps K F (ns.map V.bl) (ns.map D.bl)
  | [] => .nil
  | n :: r => .cons (.bl n) (Reps.bls r)
theorem Reps.of_bls : ∀ {ns : List Bool} {vs : List V}, Reps K F vs (ns.map D.bl) → vs = ns.map V.bl
  | [], _, .nil => rfl
  | n :: r, _, .cons (.bl _) t => by rw [Reps.of_bls t]; rfl
theorem Reps.strs : ∀ (ns : List Str), Reps K F (ns.map V.str) (ns.map D.str)
  | [] => .nil
  | n :: r => .cons (.str n) (Reps.strs r)
theorem Reps.of_strs : ∀ {ns : List Str} {vs : List V}, Reps K F vs (ns.map D.str) → vs = ns.map V.str
  | [], _, .nil => rfl
  | n :: r, _, .cons (.str _) t => by rw [Reps.of_strs t]; rfl
end

/-! ### heaps grow -/
/-- a table's content: each code object that it tells bears the table's name -/
def TblOk (F : Hp) (P : Addr) (ps : Array Value) : Prop := TriplesOk ps.toList ∧ ∀ (pos : Pos) (cv : Value), codeAmong pos ps.toList = some cv → ∃ c, cv = .ref c ∧ F c = some (LamX.CodeO c (Tabs.nm P))
theorem TblOk.ex {F F' : Hp} {ps : Array Value} {P : Addr} (e : Ex F F') (t : TblOk F P ps) : TblOk F' P ps := ⟨t.1, fun pos cv h => by
  obtain ⟨c, h1, h2⟩ := t.2 pos cv h
  exact ⟨c, h1, e _ _ h2⟩⟩
/-- all stays, but the tables of code objects, which stay good -/
def EhT (F H F' H' : Hp) : Prop := ∀ a o, H a = some o → H' a = some o ∨ ∃ ps ps', o = .tbl ps ∧ H' a = some (.tbl ps') ∧ (TblOk F a ps → TblOk F' a ps')
theorem EhT.of {F H F' H' : Hp} (e : Ex H H') : EhT F H F' H' := fun a o h => .inl (e a o h)
theorem EhT.refl {F H F' : Hp} : EhT F H F' H := fun a o h => .inl h
theorem EhT.up {F H F' F'' H' : Hp} (g : EhT F H F' H') (e : Ex F' F'') : EhT F H F'' H' := fun a o h => by
  rcases g a o h with h | ⟨ps, ps', h1, h2, h3⟩
  · exact .inl h
  · exact .inr ⟨ps, ps', h1, h2, fun t => (h3 t).ex e⟩
theorem EhT.trans {F H F1 H1 F2 H2 : Hp} (a : EhT F H F1 H1) (e : Ex F F1) (b : EhT F1 H1 F2 H2) (e1 : Ex F1 F2) : EhT F H F2 H2 := fun x o h => by
  rcases a x o h with h | ⟨ps, ps', rfl, h2, h3⟩
  · rcases b x o h with h | ⟨ps, ps', rfl, h2, h3⟩
    · exact .inl h
    · exact .inr ⟨ps, ps', rfl, h2, fun t => h3 (t.ex e)⟩
  · rcases b x _ h2 with h | ⟨qs, qs', z, h4, h5⟩
    · exact .inr ⟨ps, ps', rfl, h, fun t => (h3 t).ex e1⟩
    · cases z
      exact .inr ⟨ps, qs', rfl, h4, fun t => h5 (h3 t)⟩
theorem EhT.at {F H F' H' : Hp} {a : Addr} {o : HO} (g : EhT F H F' H') (h : H a = some o) (n : ∀ ps, o ≠ .tbl ps := by intro ps z; cases z) : H' a = some o := by
  rcases g a o h with h | ⟨ps, ps', h1, _⟩
  · exact h
  · exact absurd h1 (n ps)
theorem EhT.fresh {F H F' H' : Hp} {p : Addr} (g : EhT F H F' H') (h : H' p = none) : H p = none := by
  cases h1 : H p with
  | none => rfl
  | some o =>
    rcases g p o h1 with z | ⟨_, _, _, z, _⟩ <;> rw [h] at z <;> cases z
theorem EhT.mut {F H F' H' : Hp} {p : Addr} {o : HO} (g : EhT F H F' H') (h : H p = none) : EhT F H F' (upd H' p o) := fun a u ha => by
  rw [upd_ne (ne_of_none ha h)]
  exact g a u ha
theorem EhT.tab {F H F' H' : Hp} {P : Addr} {ps : Array Value} (g : EhT F H F' H') (e : Ex F F') (h : H P = some (.tbl ps)) : ∃ ps', H' P = some (.tbl ps') ∧ (TblOk F P ps → TblOk F' P ps') := by
  rcases g P _ h with h | ⟨ps, ps', z, h2, h3⟩
  · exact ⟨ps, h, fun t => t.ex e⟩
  · cases z
    exact ⟨ps', h2, h3⟩
structure Grow (F H F' H' : Hp) : Prop where
  ef : Ex F F'
  eh : EhT F H F' H'
  sub : Ex F' H'
  new : ∀ a o, H a = some o → (∀ xs, o ≠ .tup xs) → F' a = F a
theorem Grow.refl {F H : Hp} (s : Ex F H) : Grow F H F H := ⟨Ex.refl F, .refl, s, fun _ _ _ _ => rfl⟩
theorem Grow.trans {F H F1 H1 F2 H2 : Hp} (a : Grow F H F1 H1) (b : Grow F1 H1 F2 H2) : Grow F H F2 H2 :=
  ⟨a.ef.trans b.ef, a.eh.trans a.ef b.eh b.ef, b.sub, fun x o h n => by
    refine Eq.trans ?_ (a.new x o h n)
    rcases a.eh x o h with h | ⟨ps, ps', _, h, _⟩
    · exact b.new x o h n
    · exact b.new x _ h fun xs z => by cases z⟩
theorem ex_upd2 {F H : Hp} {p : Addr} {o : HO} (s : Ex F H) : Ex (upd F p o) (upd H p o) := fun a u e => by
  by_cases h : a = p
  · subst h; rw [upd_same] at e ⊢; exact e
  · rw [upd_ne h] at e ⊢; exact s a u e
theorem fresh_sub {F H : Hp} {p : Addr} (s : Ex F H) (h : H p = none) : F p = none := Evl.fresh_back s h
theorem Grow.add {F H : Hp} {p : Addr} {o : HO} (s : Ex F H) (h : H p = none) : Grow F H (upd F p o) (upd H p o) :=
  ⟨Ex.new (fresh_sub s h), .of (Ex.new h), ex_upd2 s, fun a u e _ => upd_ne (ne_of_none e h)⟩
theorem Grow.addH {F H : Hp} {p : Addr} {o : HO} (s : Ex F H) (h : H p = none) : Grow F H F (upd H p o) :=
  ⟨Ex.refl F, .of (Ex.new h), s.trans (Ex.new h), fun _ _ _ _ => rfl⟩
/-- a tuple that stands in H may be frozen at any time -/
theorem Grow.tup {F H : Hp} {p : Addr} {xs : List V} (s : Ex F H) (h : H p = some (.tup xs)) : Grow F H (upd F p (.tup xs)) H := by
  refine ⟨fun a u e => ?_, .refl, fun a u e => ?_, fun a u e n => ?_⟩
  · by_cases q : a = p
    · subst q
      rw [upd_same]
      exact h.symm.trans (s _ _ e)
    · rw [upd_ne q]; exact e
  · by_cases q : a = p
    · subst q
      rw [upd_same] at e
      exact h.trans e
    · rw [upd_ne q] at e; exact s _ _ e
  · by_cases q : a = p
    · subst q
      rw [h] at e
      exact absurd (Option.some.inj e).symm (n xs)
    · rw [upd_ne q]

/-! ### a dict whose keys are pairs of tuples of ints, each with True -/
abbrev PK2 := List Int × List Int
def hL (l : List Int) : Int := reduceHash (Builtin.Tuple.tupleHashOf (l.map hashInt))
def hP (k : PK2) : Int := reduceHash (Builtin.Tuple.tupleHashOf [hL k.1, hL k.2])
def prD (k : PK2) : D := .tup [.tup (k.1.map D.int), .tup (k.2.map D.int)]
structure NDict (h : Heap) (a : Addr) (L : List (PK2 × Addr)) : Prop where
  sys : (a == sysModules) = false
  few : L.length ≤ 100000
  ex : ∃ (u : Obj) (es : Array DictEntry) (ep : Nat), h.get? a = some u ∧ u.ExactDict ∧ u.data = .dict es ep ∧ es.toList = L.map (fun q => ⟨hP q.1, .ref q.2, .bool true⟩) ∧ (L.map (·.1)).Nodup
def NDO (a : Addr) (L : List (PK2 × Addr)) : HO := .ext fun h => NDict h a L
/-! ### slots -/
inductive Ow where
  | lst (ds : List D) | dI (ks : List Int) (vs : List D) | dT (ks : List (List Int)) (vs : List D) | dN (ks : List PK2)
inductive Slot where
  | un | val (d : D) | own (o : Ow)
abbrev Env := List Slot
def OwRep (K : PySem.W.Frag) (F : Hp) (u : HO) : Ow → Prop
  | .lst ds => ∃ xs, u = .lst xs ∧ Reps K F xs ds
  | .dI ks vs => ∃ kvs : List (Key × V), u = .dK kvs ∧ kvs.map (·.1) = ks.map Sum.inl ∧ Reps K F (kvs.map (·.2)) vs
  | .dT ks vs => ∃ kvs : List (List Key × V), u = .dT kvs ∧ kvs.map (·.1) = ks.map (·.map Sum.inl) ∧ Reps K F (kvs.map (·.2)) vs
  | .dN ks => ∃ (a : Addr) (L : List (PK2 × Addr)), u = NDO a L ∧ L.map (·.1) = ks ∧ Reps K F (L.map fun q => .ref q.2) (L.map fun q => prD q.1)
theorem OwRep.ex {K : PySem.W.Frag} {F F' : Hp} {u : HO} (e : Ex F F') : ∀ {o : Ow}, OwRep K F u o → OwRep K F' u o
  | .lst _, ⟨xs, h, r⟩ => ⟨xs, h, r.ex e⟩
  | .dI _ _, ⟨xs, h, k, r⟩ => ⟨xs, h, k, r.ex e⟩
  | .dT _ _, ⟨xs, h, k, r⟩ => ⟨xs, h, k, r.ex e⟩
  | .dN _, ⟨a, L, h, k, r⟩ => ⟨a, L, h, k, r.ex e⟩
theorem OwRep.notup {K : PySem.W.Frag} {F : Hp} {u : HO} : ∀ {o : Ow}, OwRep K F u o → ∀ xs, u ≠ .tup xs
  | .lst _, ⟨xs, h, _⟩, ys => by rw [h]; intro z; cases z
  | .dI _ _, ⟨xs, h, _⟩, ys => by rw [h]; intro z; cases z
  | .dT _ _, ⟨xs, h, _⟩, ys => by rw [h]; intro z; cases z
  | .dN _, ⟨a, L, h, _⟩, ys => by rw [h]; intro z; cases z
theorem OwRep.mut {K : PySem.W.Frag} {F : Hp} {u : HO} {o : Ow} (r : OwRep K F u o) : Mut (some u) := by
  cases o with
  | lst _ => obtain ⟨xs, h, _⟩ := r; rw [h]; trivial
  | dI _ _ => obtain ⟨xs, h, _⟩ := r; rw [h]; trivial
  | dT _ _ => obtain ⟨xs, h, _⟩ := r; rw [h]; trivial
  | dN _ => obtain ⟨a, L, h, _⟩ := r; rw [h]; trivial
theorem OwRep.notbl {K : PySem.W.Frag} {F : Hp} {u : HO} {o : Ow} (r : OwRep K F u o) (ps : Array Value) : u ≠ .tbl ps := fun z => by
  have := r.mut
  rw [z] at this
  exact this
structure TabRep (F H : Hp) (P : Addr) : Prop where
  f : F P = none
  ex : ∃ ps : Array Value, H P = some (.tbl ps) ∧ TblOk F P ps
theorem TabRep.go {F H F' H' : Hp} {P : Addr} (t : TabRep F H P) (g : Grow F H F' H') : TabRep F' H' P := by
  obtain ⟨ps, e, ht⟩ := t.ex
  obtain ⟨ps', e', ht'⟩ := g.eh.tab g.ef e
  exact ⟨(g.new P _ e fun _ z => by cases z).trans t.f, ps', e', ht' ht⟩
/-- another address is changed -/
theorem TabRep.oth {F H F' H' : Hp} {P : Addr} (t : TabRep F H P) (e : Ex F F') (hf : F' P = F P) (hh : H' P = H P) : TabRep F' H' P := by
  obtain ⟨ps, e1, ht⟩ := t.ex
  exact ⟨hf.trans t.f, ps, hh.trans e1, ht.ex e⟩
theorem TabRep.ne {K : PySem.W.Frag} {F H : Hp} {P a : Addr} {u : HO} {o : Ow} (t : TabRep F H P) (h : H a = some u) (r : OwRep K F u o) : P ≠ a := fun z => by
  obtain ⟨ps, e, _⟩ := t.ex
  rw [z, h] at e
  exact r.notbl ps (Option.some.inj e)

structure Srep (K : PySem.W.Frag) (F0 H0 F H : Hp) (σ : L2.St) (ρ : Env) : Prop where
  grow : Grow F0 H0 F H
  len : ρ.length = σ.length
  val : ∀ (i : Nat) d, ρ[i]? = some (.val d) → ∃ v, σ[i]? = some (some v) ∧ Rep K F v d
  own : ∀ (i : Nat) o, ρ[i]? = some (.own o) → ∃ a u, σ[i]? = some (some (.ref a)) ∧ F a = none ∧ H0 a = none ∧ H a = some u ∧ OwRep K F u o
  inj : ∀ (i j : Nat) o o' a, ρ[i]? = some (.own o) → ρ[j]? = some (.own o') → σ[i]? = some (some (.ref a)) → σ[j]? = some (some (.ref a)) → i = j
  tab : ∀ P ∈ Tabs.all, TabRep F H P

section
variable {K : PySem.W.Frag} {F0 H0 F H F' H' : Hp} {σ : L2.St} {ρ : Env}
theorem Srep.sub (S : Srep K F0 H0 F H σ ρ) : Ex F H := S.grow.sub
theorem Srep.go (S : Srep K F0 H0 F H σ ρ) (g : Grow F H F' H') : Srep K F0 H0 F' H' σ ρ := by
  refine ⟨S.grow.trans g, S.len, fun i d e => ?_, fun i o e => ?_, S.inj, fun P e => (S.tab P e).go g⟩
  · obtain ⟨v, h1, h2⟩ := S.val i d e
    exact ⟨v, h1, h2.ex g.ef⟩
  · obtain ⟨a, u, h1, h2, h3, h4, h5⟩ := S.own i o e
    exact ⟨a, u, h1, (g.new a u h4 h5.notup).trans h2, h3, g.eh.at h4 h5.notbl, h5.ex g.ef⟩
/-- slots that are not own may be forgotten or changed -/
theorem Srep.set (S : Srep K F0 H0 F H σ ρ) {i : Nat} {v : V} {d : D} (r : Rep K F v d) : Srep K F0 H0 F H (σ.set i (some v)) (ρ.set i (.val d)) := by
  refine ⟨S.grow, by simp [S.len], fun j e h => ?_, fun j o h => ?_, fun j k o o' a h1 h2 h3 h4 => ?_, S.tab⟩
  · by_cases q : i = j
    · subst q
      by_cases hl : i < ρ.length
      · rw [List.getElem?_set_self hl] at h
        cases h
        exact ⟨v, by rw [List.getElem?_set_self (by rw [← S.len]; exact hl)], r⟩
      · rw [List.getElem?_eq_none (by simpa using hl)] at h
        cases h
    · rw [List.getElem?_set_ne q] at h
      rw [List.getElem?_set_ne q]
      exact S.val j e h
  · have q : i ≠ j := fun q => by
      subst q
      by_cases hl : i < ρ.length
      · rw [List.getElem?_set_self hl] at h; cases h
      · rw [List.getElem?_eq_none (by simpa using hl)] at h; cases h
    rw [List.getElem?_set_ne q] at h
    rw [List.getElem?_set_ne q]
    exact S.own j o h
  · have q : ∀ j o, (ρ.set i (.val d))[j]? = some (.own o) → i ≠ j ∧ ρ[j]? = some (.own o) := fun j o h => by
      have q : i ≠ j := fun q => by
        subst q
        by_cases hl : i < ρ.length
        · rw [List.getElem?_set_self hl] at h; cases h
        · rw [List.getElem?_eq_none (by simpa using hl)] at h; cases h
      rw [List.getElem?_set_ne q] at h
      exact ⟨q, h⟩
    obtain ⟨n1, e1⟩ := q j o h1
    obtain ⟨n2, e2⟩ := q k o' h2
    rw [List.getElem?_set_ne n1] at h3
    rw [List.getElem?_set_ne n2] at h4
    exact S.inj j k o o' a e1 e2 h3 h4
/-- an own slot is forgotten -/
theorem Srep.drop (S : Srep K F0 H0 F H σ ρ) {i : Nat} {o : Ow} (hi : ρ[i]? = some (.own o)) : Srep K F0 H0 F H σ (ρ.set i (.val .any)) := by
  obtain ⟨a, u, e1, _⟩ := S.own i o hi
  have hl : i < ρ.length := by
    rcases Nat.lt_or_ge i ρ.length with h | h
    · exact h
    · rw [List.getElem?_eq_none h] at hi; cases hi
  have nv : ∀ (j : Nat) o', (ρ.set i (.val .any))[j]? = some (.own o') → ρ[j]? = some (.own o') := fun j o' h => by
    by_cases q : i = j
    · subst q
      rw [List.getElem?_set_self hl] at h
      cases h
    · rw [List.getElem?_set_ne q] at h
      exact h
  refine ⟨S.grow, by rw [List.length_set]; exact S.len, fun j d h => ?_, fun j o' h => S.own j o' (nv j o' h), fun j k o' o'' b h1 h2 => S.inj j k o' o'' b (nv j o' h1) (nv k o'' h2), S.tab⟩
  by_cases q : i = j
  · subst q
    rw [List.getElem?_set_self hl] at h
    cases h
    exact ⟨_, e1, .any _⟩
  · rw [List.getElem?_set_ne q] at h
    exact S.val j d h
end

/-! ### readings of denotations -/
def tD (K : PySem.W.Frag) (W : WX) (f : Env → R D) : TE := fun σ H Q => ∃ F0 H0 F ρ, Srep K F0 H0 F H σ ρ ∧ match f ρ with
  | .ok d => ∀ v F' H', Grow F H F' H' → Rep K F' v d → Q v H'
  | .exc c => ∀ F' H', Grow F H F' H' → W (.ref c) none σ H'
  | .bad => False
def tDs (K : PySem.W.Frag) (W : WX) (f : Env → R (List D)) : TA := fun σ H Q => ∃ F0 H0 F ρ, Srep K F0 H0 F H σ ρ ∧ match f ρ with
  | .ok d => ∀ v F' H', Grow F H F' H' → Reps K F' v d → Q v H'
  | .exc c => ∀ F' H', Grow F H F' H' → W (.ref c) none σ H'
  | .bad => False
def tDt (K : PySem.W.Frag) (W : WX) (f : Env → R Bool) : TT := fun σ H Q => ∃ F0 H0 F ρ, Srep K F0 H0 F H σ ρ ∧ match f ρ with
  | .ok b => ∀ F' H', Grow F H F' H' → Q b H'
  | .exc c => ∀ F' H', Grow F H F' H' → W (.ref c) none σ H'
  | .bad => False
/-- a new list or dict, not frozen yet -/
def tDo (K : PySem.W.Frag) (W : WX) (f : Env → R Ow) : TE := fun σ H Q => ∃ F0 H0 F ρ, Srep K F0 H0 F H σ ρ ∧ match f ρ with
  | .ok o => ∀ p u F' H', H p = none → Grow F H F' H' → F' p = none → H' p = some u → OwRep K F' u o → Q (.ref p) H'
  | .exc c => ∀ F' H', Grow F H F' H' → W (.ref c) none σ H'
  | .bad => False

abbrev DE (X : Cx) (W : WX) (e : Expr) (f : Env → R D) : Prop := PE X e (tD X.K W f)
abbrev DA (X : Cx) (W : WX) (es : List Expr) (f : Env → R (List D)) : Prop := PA X es (tDs X.K W f)
abbrev DT (X : Cx) (W : WX) (e : Expr) (f : Env → R Bool) : Prop := PT X e (tDt X.K W f)
abbrev DO (X : Cx) (W : WX) (e : Expr) (f : Env → R Ow) : Prop := PE X e (tDo X.K W f)

section
variable {K : PySem.W.Frag} {W : WX} {F0 H0 F H : Hp} {σ : L2.St} {ρ : Env}
theorem tD_ok {f : Env → R D} {d : D} {Q : VK} (S : Srep K F0 H0 F H σ ρ) (e : f ρ = .ok d) (q : ∀ v F' H', Grow F H F' H' → Rep K F' v d → Q v H') : tD K W f σ H Q :=
  ⟨F0, H0, F, ρ, S, by rw [e]; exact q⟩
theorem tD_exc {f : Env → R D} {c : Addr} {Q : VK} (S : Srep K F0 H0 F H σ ρ) (e : f ρ = .exc c) (q : ∀ F' H', Grow F H F' H' → W (.ref c) none σ H') : tD K W f σ H Q :=
  ⟨F0, H0, F, ρ, S, by rw [e]; exact q⟩
theorem tDs_ok {f : Env → R (List D)} {d : List D} {Q : List V → Hp → Prop} (S : Srep K F0 H0 F H σ ρ) (e : f ρ = .ok d) (q : ∀ v F' H', Grow F H F' H' → Reps K F' v d → Q v H') : tDs K W f σ H Q :=
  ⟨F0, H0, F, ρ, S, by rw [e]; exact q⟩
theorem tDs_exc {f : Env → R (List D)} {c : Addr} {Q : List V → Hp → Prop} (S : Srep K F0 H0 F H σ ρ) (e : f ρ = .exc c) (q : ∀ F' H', Grow F H F' H' → W (.ref c) none σ H') : tDs K W f σ H Q :=
  ⟨F0, H0, F, ρ, S, by rw [e]; exact q⟩
theorem tDt_ok {f : Env → R Bool} {d : Bool} {Q : Bool → Hp → Prop} (S : Srep K F0 H0 F H σ ρ) (e : f ρ = .ok d) (q : ∀ F' H', Grow F H F' H' → Q d H') : tDt K W f σ H Q :=
  ⟨F0, H0, F, ρ, S, by rw [e]; exact q⟩
theorem tDt_exc {f : Env → R Bool} {c : Addr} {Q : Bool → Hp → Prop} (S : Srep K F0 H0 F H σ ρ) (e : f ρ = .exc c) (q : ∀ F' H', Grow F H F' H' → W (.ref c) none σ H') : tDt K W f σ H Q :=
  ⟨F0, H0, F, ρ, S, by rw [e]; exact q⟩
end

section
variable {X : Cx} {W : WX}
theorem pe_imp {e : Expr} {t t' : TE} (h : PE X e t) (i : ∀ σ H Q, t' σ H Q → t σ H Q) : PE X e t' := ⟨fun pins s σ H Q I hw => h.run pins s σ H Q I (i σ H Q hw)⟩
theorem pt_imp {e : Expr} {t t' : TT} (h : PT X e t) (i : ∀ σ H Q, t' σ H Q → t σ H Q) : PT X e t' := ⟨fun pins s σ H Q I hw => h.run pins s σ H Q I (i σ H Q hw)⟩
theorem pw_imp {e : Expr} {t t' : TT} (h : PW X e t) (i : ∀ σ H Q, t' σ H Q → t σ H Q) : PW X e t' := ⟨fun wh pins s σ H Q I hw => h.run wh pins s σ H Q I (i σ H Q hw)⟩
theorem pa_imp {es : List Expr} {t t' : TA} (h : PA X es t) (i : ∀ σ H Q, t' σ H Q → t σ H Q) : PA X es t' := ⟨fun pos pins s σ H Q I hw => h.run pos pins s σ H Q I (i σ H Q hw)⟩
theorem ps_imp {st : Stmt} {t t' : TS} (h : PS X st t) (i : ∀ E σ H, t' E σ H → t E σ H) : PS X st t' := ⟨fun pins s σ H E I hw => h.run pins s σ H E I (i E σ H hw)⟩
theorem pss_imp {st : List Stmt} {t t' : TS} (h : PSs X st t) (i : ∀ E σ H, t' E σ H → t E σ H) : PSs X st t' := ⟨fun pins s σ H E I hw => h.run pins s σ H E I (i E σ H hw)⟩

/-! ### names, constants -/
def eVar (i : Nat) : Env → R D := fun ρ => match ρ[i]? with
  | some (.val d) => .ok d
  | _ => .bad
def eC (d : D) : Env → R D := fun _ => .ok d
theorem de_var {i : Nat} {x : Str} {pos : Pos} (hN : X.N[i]? = some x) (hv : Vis X.env.scope x) (hd : (x == ("__debug__" : Str)) = false := by decide) (hcd : (x == ("__classdict__" : Str)) = false := by decide) : DE X W (.Name x pos) (eVar i) := by
  refine pe_imp (pe_var hN hv hd hcd) fun σ H Q h => ?_
  obtain ⟨F0, H0, F, ρ, S, h⟩ := h
  unfold eVar at h
  cases e : ρ[i]? with
  | none => rw [e] at h; exact h.elim
  | some sl =>
    rw [e] at h
    cases sl with
    | un => exact h.elim
    | own o => exact h.elim
    | val d =>
      obtain ⟨v, h1, h2⟩ := S.val i d e
      exact ⟨v, h1, h v F H (Grow.refl S.sub) h2⟩
theorem de_c {e : Expr} {v : V} {d : D} (h : PE X e (tC v)) (r : ∀ F, Rep X.K F v d) : DE X W e (eC d) :=
  pe_imp h fun σ H Q ⟨F0, H0, F, ρ, S, q⟩ => q v F H (Grow.refl S.sub) (r F)
theorem de_int {i j pos} : DE X W (.Constant (.int i) j pos) (eC (.int i)) := de_c pe_int fun _ => .int i
theorem de_bl {b j pos} : DE X W (.Constant (.bool b) j pos) (eC (.bl b)) := de_c pe_bl fun _ => .bl b
theorem de_non {j pos} : DE X W (.Constant .none j pos) (eC .non) := de_c pe_non fun _ => .non
theorem de_str {x j pos} : DE X W (.Constant (.str x) j pos) (eC (.str x)) := de_c pe_str fun _ => .str x
/-- a module's constant -/
theorem de_glob {x : Str} {v : V} {d : D} {u : Value} {pos : Pos} (hg : Gl X x) (hm : X.mg x = some u) (r : RelV v u) (rd : ∀ F, Rep X.K F v d) (hd : (x == ("__debug__" : Str)) = false := by decide) : DE X W (.Name x pos) (eC d) := de_c (pe_glob hg hm r hd) rd
theorem de_bltn {x : Str} {v : V} {d : D} {u : Value} {pos : Pos} (hg : Gl X x) (hm : X.mg x = none) (hv : bootBuiltins x = some u) (r : RelV v u) (rd : ∀ F, Rep X.K F v d) (hn : x ≠ "__name__" := by decide) (hd : (x == ("__debug__" : Str)) = false := by decide) : DE X W (.Name x pos) (eC d) := de_c (pe_bltn hg hm hv r hn hd) rd

/-! ### argument lists, displays -/
def aNil : Env → R (List D) := fun _ => .ok []
def aCons (f : Env → R D) (g : Env → R (List D)) : Env → R (List D) := fun ρ => (f ρ).bind fun a => (g ρ).bind fun as => .ok (a :: as)
theorem da_nil : DA X W [] aNil := pa_imp pa_nil fun σ H Q ⟨F0, H0, F, ρ, S, q⟩ => q [] F H (Grow.refl S.sub) .nil
theorem da_cons {e : Expr} {es : List Expr} {f : Env → R D} {g : Env → R (List D)} (h : DE X W e f) (hs : DA X W es g) (hst : starEach (e :: es) X.env = (false, eval e X.env) :: starEach es X.env := by rfl) : DA X W (e :: es) (aCons f g) := by
  refine pa_imp (pa_cons h hs hst) fun σ H Q hh => ?_
  obtain ⟨F0, H0, F, ρ, S, q⟩ := hh
  unfold aCons at q
  cases ef : f ρ with
  | bad => rw [ef] at q; exact q.elim
  | exc c => rw [ef] at q; exact tD_exc S ef q
  | ok a =>
    rw [ef] at q
    refine tD_ok S ef fun v F1 H1 g1 r1 => ?_
    have S1 := S.go g1
    rw [R.bind_ok] at q
    cases eg : g ρ with
    | bad => rw [eg] at q; exact q.elim
    | exc c => rw [eg] at q; exact tDs_exc S1 eg fun F2 H2 g2 => q F2 H2 (g1.trans g2)
    | ok as =>
      rw [eg] at q
      exact tDs_ok S1 eg fun vs F2 H2 g2 r2 => q (v :: vs) F2 H2 (g1.trans g2) (.cons (r1.ex g2.ef) r2)
/-- from arguments to one value -/
def eArgs (g : List D → Option D) (f : Env → R (List D)) : Env → R D := fun ρ => (f ρ).bind fun as => R.lift (g as)
/-- what a call by values does, soundly -/
def CallS (K : PySem.W.Frag) (r : List V → Hp → VK → Prop) (g : List D → Option D) : Prop :=
  ∀ F H xs as d Q, Ex F H → Reps K F xs as → g as = some d → (∀ v F' H', Grow F H F' H' → Rep K F' v d → Q v H') → r xs H Q
theorem eArgs_of {r : List V → Hp → VK → Prop} {g : List D → Option D} {f : Env → R (List D)} {σ : L2.St} {H : Hp} {Q : VK} (hr : CallS X.K r g) (h : tD X.K W (eArgs g f) σ H Q) : tDs X.K W f σ H fun vs H1 => r vs H1 Q := by
  obtain ⟨F0, H0, F, ρ, S, q⟩ := h
  unfold eArgs at q
  cases ef : f ρ with
  | bad => rw [ef] at q; exact q.elim
  | exc c => rw [ef] at q; exact tDs_exc S ef q
  | ok as =>
    rw [ef, R.bind_ok] at q
    refine tDs_ok S ef fun vs F1 H1 g1 r1 => ?_
    cases eg : g as with
    | none => rw [eg] at q; exact q.elim
    | some d =>
      rw [eg] at q
      exact hr F1 H1 vs as d Q g1.sub r1 eg fun v F2 H2 g2 r2 => q v F2 H2 (g1.trans g2) r2
def gTupD (as : List D) : Option D := if as.length ≤ 100000 then some (.tup as) else none
def gLstD (as : List D) : Option D := if as.length ≤ 100000 then some (.lst as) else none
theorem sz {n : Nat} (h : n ≤ 100000) : n ≤ sizeLine := Evl.sz_of h
theorem de_tup {es : List Expr} {x1 pos} {f : Env → R (List D)} (h : DA X W es f) : DE X W (.Tuple es x1 pos) (eArgs gTupD f) := by
  refine pe_imp (pe_tup h) fun σ H Q hh => eArgs_of (r := fun xs H1 Q => xs.length ≤ sizeLine ∧ ∀ p, H1 p = none → Q (.ref p) (upd H1 p (.tup xs))) ?_ hh
  intro F H xs as d Q s r e q
  unfold gTupD at e
  split at e
  · rename_i hl
    cases e
    refine ⟨by rw [r.length]; exact sz hl, fun p hp => q _ _ _ (Grow.add s hp) (.tup upd_same (r.ex (Ex.new (fresh_sub s hp))))⟩
  · cases e
/-- a list display, frozen -/
theorem de_lst {es : List Expr} {pos} {f : Env → R (List D)} (h : DA X W es f) : DE X W (.List es pos) (eArgs gLstD f) := by
  refine pe_imp (pe_lst h) fun σ H Q hh => eArgs_of (r := fun xs H1 Q => xs.length ≤ sizeLine ∧ ∀ p, H1 p = none → Q (.ref p) (upd H1 p (.lst xs))) ?_ hh
  intro F H xs as d Q s r e q
  unfold gLstD at e
  split at e
  · rename_i hl
    cases e
    refine ⟨by rw [r.length]; exact sz hl, fun p hp => q _ _ _ (Grow.add s hp) (.lst upd_same (r.ex (Ex.new (fresh_sub s hp))))⟩
  · cases e
/-- .. its own -/
def oArgs (f : Env → R (List D)) : Env → R Ow := fun ρ => (f ρ).bind fun as => if as.length ≤ 100000 then .ok (.lst as) else .bad
theorem do_lst {es : List Expr} {pos} {f : Env → R (List D)} (h : DA X W es f) : DO X W (.List es pos) (oArgs f) := by
  refine pe_imp (pe_lst h) fun σ H Q hh => ?_
  obtain ⟨F0, H0, F, ρ, S, q⟩ := hh
  unfold oArgs at q
  cases ef : f ρ with
  | bad => rw [ef] at q; exact q.elim
  | exc c => rw [ef] at q; exact tDs_exc S ef q
  | ok as =>
    rw [ef, R.bind_ok] at q
    refine tDs_ok S ef fun vs F1 H1 g1 r1 => ?_
    by_cases hl : as.length ≤ 100000
    · rw [if_pos hl] at q
      refine ⟨by rw [r1.length]; exact sz hl, fun p hp => ?_⟩
      exact q p _ F1 _ (g1.eh.fresh hp) (g1.trans (Grow.addH g1.sub hp)) (fresh_sub g1.sub hp) upd_same ⟨vs, rfl, r1⟩
    · rw [if_neg hl] at q
      exact q.elim

/-! ### operators by values -/
def op2 (g : D → D → Option D) (fa fb : Env → R D) : Env → R D := fun ρ => (fa ρ).bind fun a => (fb ρ).bind fun b => R.lift (g a b)
def OpS (K : PySem.W.Frag) (r : R2) (g : D → D → Option D) : Prop :=
  ∀ F H x y a b d Q, Ex F H → Rep K F x a → Rep K F y b → g a b = some d → (∀ v F' H', Grow F H F' H' → Rep K F' v d → Q v H') → r x y H Q
theorem op2_of {r : R2} {g : D → D → Option D} {fa fb : Env → R D} {σ : L2.St} {H : Hp} {Q : VK} (hr : OpS X.K r g) (h : tD X.K W (op2 g fa fb) σ H Q) : tOp r (tD X.K W fa) (tD X.K W fb) σ H Q := by
  obtain ⟨F0, H0, F, ρ, S, q⟩ := h
  unfold op2 at q
  show tD X.K W fa σ H fun x H1 => tD X.K W fb σ H1 fun y H2 => r x y H2 Q
  cases ea : fa ρ with
  | bad => rw [ea] at q; exact q.elim
  | exc c => rw [ea] at q; exact tD_exc S ea q
  | ok a =>
    rw [ea, R.bind_ok] at q
    refine tD_ok S ea fun x F1 H1 g1 r1 => ?_
    cases eb : fb ρ with
    | bad => rw [eb] at q; exact q.elim
    | exc c => rw [eb] at q; exact tD_exc (S.go g1) eb fun F2 H2 g2 => q F2 H2 (g1.trans g2)
    | ok b =>
      rw [eb, R.bind_ok] at q
      refine tD_ok (S.go g1) eb fun y F2 H2 g2 r2 => ?_
      cases eg : g a b with
      | none => rw [eg] at q; exact q.elim
      | some d =>
        rw [eg] at q
        exact hr F2 H2 x y a b d Q g2.sub (r1.ex g2.ef) r2 eg fun v F3 H3 g3 r3 => q v F3 H3 ((g1.trans g2).trans g3) r3
theorem de_op {op : Operator} {r : R2} {g : D → D → Option D} {a b : Expr} {pos : Pos} {fa fb : Env → R D} (ho : OpR X (binaryOp op) r) (hs : OpS X.K r g) (ha : DE X W a fa) (hb : DE X W b fb) : DE X W (.BinOp a op b pos) (op2 g fa fb) :=
  pe_imp (pe_op ho ha hb) fun _ _ _ h => op2_of hs h
theorem de_cmp {op : CmpOp} {r : R2} {g : D → D → Option D} {a b : Expr} {pos : Pos} {fa fb : Env → R D} (ho : OpR X (compareOp op) r) (hs : OpS X.K r g) (ha : DE X W a fa) (hb : DE X W b fb) (hm : behindInMarks op b = false) : DE X W (.Compare a [op] [b] pos) (op2 g fa fb) :=
  pe_imp (pe_cmpR ho ha hb hm) fun _ _ _ h => op2_of hs h
/-! ### tests -/
def asB (f : Env → R D) : Env → R Bool := fun ρ => (f ρ).bind fun d => match d with
  | .bl b => .ok b
  | _ => .bad
theorem asB_of {f : Env → R D} {σ : L2.St} {H : Hp} {Q : Bool → Hp → Prop} (h : tDt X.K W (asB f) σ H Q) : tD X.K W f σ H fun x H1 => ∃ k, x = .bl k ∧ Q k H1 := by
  obtain ⟨F0, H0, F, ρ, S, q⟩ := h
  unfold asB at q
  cases ef : f ρ with
  | bad => rw [ef] at q; exact q.elim
  | exc c => rw [ef] at q; exact tD_exc S ef q
  | ok d =>
    rw [ef, R.bind_ok] at q
    refine tD_ok S ef fun v F1 H1 g1 r1 => ?_
    cases r1 with
    | bl b => exact ⟨b, rfl, q F1 H1 g1⟩
    | _ => exact q.elim
theorem dt_val {e : Expr} {f : Env → R D} (h : DE X W e f) (he : ∀ whole, isTrue e X.env whole = (do let v ← whole; standAt e.pos; holding [v] (truthy v)) := by intro _; rfl) : DT X W e (asB f) :=
  pt_imp (pt_val h he) fun _ _ _ h => asB_of h
theorem dt_cmp {op : CmpOp} {r : R2} {g : D → D → Option D} {a b : Expr} {pos : Pos} {fa fb : Env → R D} (ho : OpR X (compareOp op) r) (hs : OpS X.K r g) (ha : DE X W a fa) (hb : DE X W b fb) (hm : behindInMarks op b = false) : DT X W (.Compare a [op] [b] pos) (asB (op2 g fa fb)) :=
  pt_imp (pt_cmpR ho ha hb hm) fun σ H Q h => op2_of (Q := fun x H' => ∃ k, x = .bl k ∧ Q k H') hs (by
    obtain ⟨F0, H0, F, ρ, S, q⟩ := h
    unfold asB at q
    cases ef : op2 g fa fb ρ with
    | bad => rw [ef] at q; exact q.elim
    | exc c => rw [ef] at q; exact tD_exc S ef q
    | ok d =>
      rw [ef, R.bind_ok] at q
      refine tD_ok S ef fun v F1 H1 g1 r1 => ?_
      cases r1 with
      | bl b => exact ⟨b, rfl, q F1 H1 g1⟩
      | _ => exact q.elim)
def bNot (f : Env → R Bool) : Env → R Bool := fun ρ => (f ρ).bind fun b => .ok (!b)
def bAnd (f g : Env → R Bool) : Env → R Bool := fun ρ => (f ρ).bind fun b => if b = true then g ρ else .ok false
def bOr (f g : Env → R Bool) : Env → R Bool := fun ρ => (f ρ).bind fun b => if b = true then .ok true else g ρ
theorem dt_not {a : Expr} {pos : Pos} {f : Env → R Bool} (h : DT X W a f) : DT X W (.UnaryOp .Not a pos) (bNot f) := by
  refine pt_imp (pt_not h) fun σ H Q hh => ?_
  obtain ⟨F0, H0, F, ρ, S, q⟩ := hh
  unfold bNot at q
  show tDt X.K W f σ H fun c H1 => Q (!c) H1
  cases ef : f ρ with
  | bad => rw [ef] at q; exact q.elim
  | exc c => rw [ef] at q; exact tDt_exc S ef q
  | ok b => rw [ef, R.bind_ok] at q; exact tDt_ok S ef q
abbrev DW (X : Cx) (W : WX) (e : Expr) (f : Env → R Bool) : Prop := PW X e (tDt X.K W f)
theorem dw_and1 {a : Expr} {pos : Pos} {f : Env → R Bool} (h : DT X W a f) : DW X W (.BoolOp .And [a] pos) f := pw_and1 h
theorem dw_or1 {a : Expr} {pos : Pos} {f : Env → R Bool} (h : DT X W a f) : DW X W (.BoolOp .Or [a] pos) f := pw_or1 h
theorem dw_and {a b : Expr} {rest : List Expr} {pos : Pos} {f g : Env → R Bool} (ha : DT X W a f) (hb : DW X W (.BoolOp .And (b :: rest) pos) g) : DW X W (.BoolOp .And (a :: b :: rest) pos) (bAnd f g) := by
  refine pw_imp (pw_and ha hb) fun σ H Q hh => ?_
  obtain ⟨F0, H0, F, ρ, S, q⟩ := hh
  unfold bAnd at q
  show tDt X.K W f σ H fun c H1 => if c = true then tDt X.K W g σ H1 Q else Q false H1
  cases ef : f ρ with
  | bad => rw [ef] at q; exact q.elim
  | exc c => rw [ef] at q; exact tDt_exc S ef q
  | ok b =>
    rw [ef, R.bind_ok] at q
    refine tDt_ok S ef fun F1 H1 g1 => ?_
    cases b with
    | false => rw [if_neg Bool.false_ne_true] at q ⊢; exact q F1 H1 g1
    | true =>
      rw [if_pos rfl] at q ⊢
      cases eg : g ρ with
      | bad => rw [eg] at q; exact q.elim
      | exc c => rw [eg] at q; exact tDt_exc (S.go g1) eg fun F2 H2 g2 => q F2 H2 (g1.trans g2)
      | ok b => rw [eg] at q; exact tDt_ok (S.go g1) eg fun F2 H2 g2 => q F2 H2 (g1.trans g2)
theorem dw_or {a b : Expr} {rest : List Expr} {pos : Pos} {f g : Env → R Bool} (ha : DT X W a f) (hb : DW X W (.BoolOp .Or (b :: rest) pos) g) : DW X W (.BoolOp .Or (a :: b :: rest) pos) (bOr f g) := by
  refine pw_imp (pw_or ha hb) fun σ H Q hh => ?_
  obtain ⟨F0, H0, F, ρ, S, q⟩ := hh
  unfold bOr at q
  show tDt X.K W f σ H fun c H1 => if c = true then Q true H1 else tDt X.K W g σ H1 Q
  cases ef : f ρ with
  | bad => rw [ef] at q; exact q.elim
  | exc c => rw [ef] at q; exact tDt_exc S ef q
  | ok b =>
    rw [ef, R.bind_ok] at q
    refine tDt_ok S ef fun F1 H1 g1 => ?_
    cases b with
    | true => rw [if_pos rfl] at q ⊢; exact q F1 H1 g1
    | false =>
      rw [if_neg Bool.false_ne_true] at q ⊢
      cases eg : g ρ with
      | bad => rw [eg] at q; exact q.elim
      | exc c => rw [eg] at q; exact tDt_exc (S.go g1) eg fun F2 H2 g2 => q F2 H2 (g1.trans g2)
      | ok b => rw [eg] at q; exact tDt_ok (S.go g1) eg fun F2 H2 g2 => q F2 H2 (g1.trans g2)
/-- .. as values -/
def vB (f : Env → R Bool) : Env → R D := fun ρ => (f ρ).bind fun b => .ok (.bl b)
def eIf (c : Env → R Bool) (f g : Env → R D) : Env → R D := fun ρ => (c ρ).bind fun b => if b = true then f ρ else g ρ
theorem de_ifExp {c a b : Expr} {pos : Pos} {t : Env → R Bool} {f g : Env → R D} (hc : DT X W c t) (ha : DE X W a f) (hb : DE X W b g) : DE X W (.IfExp c a b pos) (eIf t f g) := by
  refine pe_imp (pe_ifExp hc ha hb) fun σ H Q hh => ?_
  obtain ⟨F0, H0, F, ρ, S, q⟩ := hh
  unfold eIf at q
  show tDt X.K W t σ H fun c H1 => if c = true then tD X.K W f σ H1 Q else tD X.K W g σ H1 Q
  cases ef : t ρ with
  | bad => rw [ef] at q; exact q.elim
  | exc c => rw [ef] at q; exact tDt_exc S ef q
  | ok b =>
    rw [ef, R.bind_ok] at q
    refine tDt_ok S ef fun F1 H1 g1 => ?_
    cases b with
    | true =>
      rw [if_pos rfl] at q ⊢
      cases eg : f ρ with
      | bad => rw [eg] at q; exact q.elim
      | exc c => rw [eg] at q; exact tD_exc (S.go g1) eg fun F2 H2 g2 => q F2 H2 (g1.trans g2)
      | ok b => rw [eg] at q; exact tD_ok (S.go g1) eg fun v F2 H2 g2 => q v F2 H2 (g1.trans g2)
    | false =>
      rw [if_neg Bool.false_ne_true] at q ⊢
      cases eg : g ρ with
      | bad => rw [eg] at q; exact q.elim
      | exc c => rw [eg] at q; exact tD_exc (S.go g1) eg fun F2 H2 g2 => q F2 H2 (g1.trans g2)
      | ok b => rw [eg] at q; exact tD_ok (S.go g1) eg fun v F2 H2 g2 => q v F2 H2 (g1.trans g2)
/-- and, or of bools, as values -/
def vAnd (f g : Env → R D) : Env → R D := fun ρ => (f ρ).bind fun d => match d with
  | .bl true => g ρ
  | .bl false => .ok (.bl false)
  | _ => .bad
def vOr (f g : Env → R D) : Env → R D := fun ρ => (f ρ).bind fun d => match d with
  | .bl false => g ρ
  | .bl true => .ok (.bl true)
  | _ => .bad
def vNot (f : Env → R D) : Env → R D := fun ρ => (f ρ).bind fun d => match d with
  | .bl b => .ok (.bl (!b))
  | _ => .bad
theorem de_one {op} {a : Expr} {pos : Pos} {f : Env → R D} (h : DE X W a f) : DE X W (.BoolOp op [a] pos) f := pe_one h
theorem de_and {a b : Expr} {rest : List Expr} {pos : Pos} {f g : Env → R D} (ha : DE X W a f) (hb : DE X W (.BoolOp .And (b :: rest) pos) g) : DE X W (.BoolOp .And (a :: b :: rest) pos) (vAnd f g) := by
  refine pe_imp (pe_and ha hb) fun σ H Q hh => ?_
  obtain ⟨F0, H0, F, ρ, S, q⟩ := hh
  unfold vAnd at q
  show tD X.K W f σ H fun x H1 => ∃ c, x = .bl c ∧ if c = true then tD X.K W g σ H1 Q else Q (.bl false) H1
  cases ef : f ρ with
  | bad => rw [ef] at q; exact q.elim
  | exc c => rw [ef] at q; exact tD_exc S ef q
  | ok d =>
    rw [ef, R.bind_ok] at q
    refine tD_ok S ef fun v F1 H1 g1 r1 => ?_
    cases r1 with
    | bl b =>
      refine ⟨b, rfl, ?_⟩
      cases b with
      | false => rw [if_neg Bool.false_ne_true]; exact q _ F1 H1 g1 (.bl false)
      | true =>
        rw [if_pos rfl]
        cases eg : g ρ with
        | bad => rw [eg] at q; exact q.elim
        | exc c => rw [eg] at q; exact tD_exc (S.go g1) eg fun F2 H2 g2 => q F2 H2 (g1.trans g2)
        | ok b => rw [eg] at q; exact tD_ok (S.go g1) eg fun v F2 H2 g2 => q v F2 H2 (g1.trans g2)
    | _ => exact q.elim
theorem de_or {a b : Expr} {rest : List Expr} {pos : Pos} {f g : Env → R D} (ha : DE X W a f) (hb : DE X W (.BoolOp .Or (b :: rest) pos) g) : DE X W (.BoolOp .Or (a :: b :: rest) pos) (vOr f g) := by
  refine pe_imp (pe_or ha hb) fun σ H Q hh => ?_
  obtain ⟨F0, H0, F, ρ, S, q⟩ := hh
  unfold vOr at q
  show tD X.K W f σ H fun x H1 => ∃ c, x = .bl c ∧ if c = true then Q (.bl true) H1 else tD X.K W g σ H1 Q
  cases ef : f ρ with
  | bad => rw [ef] at q; exact q.elim
  | exc c => rw [ef] at q; exact tD_exc S ef q
  | ok d =>
    rw [ef, R.bind_ok] at q
    refine tD_ok S ef fun v F1 H1 g1 r1 => ?_
    cases r1 with
    | bl b =>
      refine ⟨b, rfl, ?_⟩
      cases b with
      | true => rw [if_pos rfl]; exact q _ F1 H1 g1 (.bl true)
      | false =>
        rw [if_neg Bool.false_ne_true]
        cases eg : g ρ with
        | bad => rw [eg] at q; exact q.elim
        | exc c => rw [eg] at q; exact tD_exc (S.go g1) eg fun F2 H2 g2 => q F2 H2 (g1.trans g2)
        | ok b => rw [eg] at q; exact tD_ok (S.go g1) eg fun v F2 H2 g2 => q v F2 H2 (g1.trans g2)
    | _ => exact q.elim
theorem de_not {a : Expr} {pos : Pos} {f : Env → R D} (ha : DE X W a f) : DE X W (.UnaryOp .Not a pos) (vNot f) := by
  refine pe_imp (pe_not ha) fun σ H Q hh => ?_
  obtain ⟨F0, H0, F, ρ, S, q⟩ := hh
  unfold vNot at q
  show tD X.K W f σ H fun x H1 => ∃ c, x = .bl c ∧ Q (.bl (!c)) H1
  cases ef : f ρ with
  | bad => rw [ef] at q; exact q.elim
  | exc c => rw [ef] at q; exact tD_exc S ef q
  | ok d =>
    rw [ef, R.bind_ok] at q
    refine tD_ok S ef fun v F1 H1 g1 r1 => ?_
    cases r1 with
    | bl b => exact ⟨b, rfl, q _ F1 H1 g1 (.bl _)⟩
    | _ => exact q.elim
/-- a op b op' c -/
def ch2 (g g' : D → D → Option D) (fa fb fc : Env → R D) : Env → R D := fun ρ => (fa ρ).bind fun a => (fb ρ).bind fun b => (R.lift (g a b)).bind fun z => match z with
  | .bl true => (fc ρ).bind fun c => R.lift (g' b c)
  | .bl false => .ok (.bl false)
  | _ => .bad
theorem ch2_of {r r' : R2} {g g' : D → D → Option D} {fa fb fc : Env → R D} {σ : L2.St} {H : Hp} {Q : VK} (hr : OpS X.K r g) (hr' : OpS X.K r' g') (h : tD X.K W (ch2 g g' fa fb fc) σ H Q) : tChain r r' (tD X.K W fa) (tD X.K W fb) (tD X.K W fc) σ H Q := by
  obtain ⟨F0, H0, F, ρ, S, q⟩ := h
  unfold ch2 at q
  show tD X.K W fa σ H fun x H1 => tD X.K W fb σ H1 fun y H2 => r x y H2 fun z H3 => ∃ k, z = .bl k ∧ (if k = true then tD X.K W fc σ H3 fun w' H4 => r' y w' H4 Q else Q (.bl false) H3)
  cases ea : fa ρ with
  | bad => rw [ea] at q; exact q.elim
  | exc c => rw [ea] at q; exact tD_exc S ea q
  | ok a =>
    rw [ea, R.bind_ok] at q
    refine tD_ok S ea fun x F1 H1 g1 r1 => ?_
    cases eb : fb ρ with
    | bad => rw [eb] at q; exact q.elim
    | exc c => rw [eb] at q; exact tD_exc (S.go g1) eb fun F2 H2 g2 => q F2 H2 (g1.trans g2)
    | ok b =>
      rw [eb, R.bind_ok] at q
      refine tD_ok (S.go g1) eb fun y F2 H2 g2 r2 => ?_
      cases eg : g a b with
      | none => rw [eg] at q; exact q.elim
      | some d =>
        rw [eg, R.lift_some, R.bind_ok] at q
        refine hr F2 H2 x y a b d _ g2.sub (r1.ex g2.ef) r2 eg fun v F3 H3 g3 r3 => ?_
        have G := (g1.trans g2).trans g3
        cases r3 with
        | bl k =>
          refine ⟨k, rfl, ?_⟩
          cases k with
          | false => rw [if_neg Bool.false_ne_true]; exact q _ F3 H3 G (.bl false)
          | true =>
            rw [if_pos rfl]
            cases ec : fc ρ with
            | bad => simp [ec] at q
            | exc c => simp only [ec, R.bind_exc] at q; exact tD_exc (S.go G) ec fun F4 H4 g4 => q F4 H4 (G.trans g4)
            | ok c =>
              simp only [ec, R.bind_ok] at q
              refine tD_ok (S.go G) ec fun w F4 H4 g4 r4 => ?_
              cases eg' : g' b c with
              | none => rw [eg'] at q; exact q.elim
              | some d' =>
                rw [eg'] at q
                exact hr' F4 H4 y w b c d' Q g4.sub (r2.ex (g3.ef.trans g4.ef)) r4 eg' fun v F5 H5 g5 r5 => q v F5 H5 ((G.trans g4).trans g5) r5
        | _ => exact q.elim
theorem de_chain {op op' : CmpOp} {r r' : R2} {g g' : D → D → Option D} {a b c : Expr} {pos : Pos} {fa fb fc : Env → R D} (ho : OpR X (compareOp op) r) (ho' : OpR X (compareOp op') r') (hs : OpS X.K r g) (hs' : OpS X.K r' g')
    (ha : DE X W a fa) (hb : DE X W b fb) (hc : DE X W c fc) (hm : lastMarks [op, op'] [b, c] = false := by with_unfolding_all rfl) : DE X W (.Compare a [op, op'] [b, c] pos) (ch2 g g' fa fb fc) :=
  pe_imp (pe_chain ho ho' ha hb hc (hm := hm)) fun _ _ _ h => ch2_of hs hs' h
theorem dt_chain {op op' : CmpOp} {r r' : R2} {g g' : D → D → Option D} {a b c : Expr} {pos : Pos} {fa fb fc : Env → R D} (ho : OpR X (compareOp op) r) (ho' : OpR X (compareOp op') r') (hs : OpS X.K r g) (hs' : OpS X.K r' g')
    (ha : DE X W a fa) (hb : DE X W b fb) (hc : DE X W c fc) (hm : lastMarks [op, op'] [b, c] = false := by with_unfolding_all rfl) : DT X W (.Compare a [op, op'] [b, c] pos) (asB (ch2 g g' fa fb fc)) :=
  pt_imp (pt_chain ho ho' ha hb hc (hm := hm)) fun σ H Q h => ch2_of (Q := fun x H' => ∃ k, x = .bl k ∧ Q k H') hs hs' (by
    obtain ⟨F0, H0, F, ρ, S, q⟩ := h
    unfold asB at q
    cases ef : ch2 g g' fa fb fc ρ with
    | bad => rw [ef] at q; exact q.elim
    | exc c => rw [ef] at q; exact tD_exc S ef q
    | ok d =>
      rw [ef, R.bind_ok] at q
      refine tD_ok S ef fun v F1 H1 g1 r1 => ?_
      cases r1 with
      | bl b => exact ⟨b, rfl, q F1 H1 g1⟩
      | _ => exact q.elim)
end
end DL

set_option Elab.async false
set_option linter.all false
set_option maxRecDepth 100000
set_option maxHeartbeats 1000000
namespace DL
variable [Tabs]
open PySem L2
open Evl (Ex)

/-! ### equality of data -/
mutual
def toP : D → PyData
  | .bl b => .bool b
  | .int i => .int i
  | .str x => .str x
  | .tup l => .tuple (toPs l)
  | .lst l => .list (toPs l)
  | .scr ns => .list (ns.map .int)
  | _ => .none
def toPs : List D → List PyData
  | [] => []
  | d :: r => toP d :: toPs r
end
mutual
/-- data that may be compared, nested at most n deep -/
def dok : Nat → D → Bool
  | _, .non => true
  | _, .bl _ => true
  | _, .int _ => true
  | _, .str x => PyData.strOk x
  | n + 1, .tup l => doks n l
  | n + 1, .lst l => doks n l
  | _ + 1, .scr _ => true
  | _, _ => false
def doks : Nat → List D → Bool
  | _, [] => true
  | n, d :: r => dok n d && doks n r
end
def scrEq : List Int → List D → Bool
  | [], [] => true
  | n :: r, .int j :: t => n == j && scrEq r t
  | n :: r, .bl b :: t => n == (if b then 1 else 0) && scrEq r t
  | _, _ => false
mutual
def eqb : D → D → Bool
  | .non, .non => true
  | .bl a, .bl b => a == b
  | .bl a, .int j => (if a then 1 else 0) == j
  | .int i, .bl b => i == (if b then 1 else 0)
  | .int i, .int j => i == j
  | .str x, .str y => x == y
  | .lst xs, .lst ys => eqbs xs ys
  | .tup xs, .tup ys => eqbs xs ys
  | .scr ns, .lst ys => scrEq ns ys
  | .lst ys, .scr ns => scrEq ns ys
  | .scr ns, .scr ms => ns == ms
  | _, _ => false
def eqbs : List D → List D → Bool
  | [], [] => true
  | x :: xs, y :: ys => eqb x y && eqbs xs ys
  | _, _ => false
end

theorem toPs_map (l : List D) : toPs l = l.map toP := by
  induction l with
  | nil => rfl
  | cons d r ih => simp [toPs, ih]
theorem doks_all (n : Nat) (l : List D) : doks n l = l.all (dok n) := by
  induction l with
  | nil => simp [doks]
  | cons d r ih => simp [doks, ih]
theorem lay_ints : ∀ ns : List Int, PyData.canLayAll0 (ns.map .int) = true ∧ PyData.depthAll (ns.map .int) = 0
  | [] => by simp [PyData.canLayAll0, PyData.depthAll]
  | n :: r => by
    have := lay_ints r
    simp [PyData.canLayAll0, PyData.depthAll, PyData.canLay0, PyData.depth, this]
theorem dok_lay : ∀ (n : Nat) (d : D), dok n d = true → (toP d).canLay0 = true ∧ (toP d).depth ≤ n := by
  intro n
  induction n with
  | zero =>
    intro d h
    cases d <;> simp_all [dok, toP, PyData.canLay0, PyData.depth]
  | succ n ih =>
    have all : ∀ l : List D, doks n l = true → PyData.canLayAll0 (toPs l) = true ∧ PyData.depthAll (toPs l) ≤ n := by
      intro l
      induction l with
      | nil => intro _; simp [toPs, PyData.canLayAll0, PyData.depthAll]
      | cons d r ihr =>
        intro h
        rw [doks, Bool.and_eq_true] at h
        obtain ⟨h1, h2⟩ := h
        obtain ⟨a1, a2⟩ := ih d h1
        obtain ⟨b1, b2⟩ := ihr h2
        simp only [toPs, PyData.canLayAll0, PyData.depthAll, a1, b1, Bool.and_self, true_and]
        omega
    intro d h
    cases d with
    | tup l =>
      obtain ⟨a, b⟩ := all l (by simpa [dok] using h)
      simp only [toP, PyData.canLay0, PyData.depth, a, true_and]
      omega
    | lst l =>
      obtain ⟨a, b⟩ := all l (by simpa [dok] using h)
      simp only [toP, PyData.canLay0, PyData.depth, a, true_and]
      omega
    | scr ns =>
      obtain ⟨a, b⟩ := lay_ints ns
      simp only [toP, PyData.canLay0, PyData.depth, a, b, true_and]
      omega
    | _ => simp_all [dok, toP, PyData.canLay0, PyData.depth]
theorem dok_shaped {d : D} (h : dok 8 d = true) : SeqAt.shaped (toP d) = true := by
  obtain ⟨a, b⟩ := dok_lay 8 d h
  simp [SeqAt.shaped, a]
  omega
theorem eqv_ints : ∀ ns ms : List Int, PyData.eqvAll (ns.map .int) (ms.map .int) = (ns == ms)
  | [], [] => rfl
  | [], _ :: _ => rfl
  | _ :: _, [] => rfl
  | n :: r, m :: t => by
    simp only [List.map_cons, PyData.eqvAll, PyData.eqv, eqv_ints r t]
    rfl
theorem scr_eqv (n : Nat) : ∀ (ns : List Int) (l : List D), PyData.eqvAll (ns.map .int) (toPs l) = scrEq ns l
  | [], [] => rfl
  | [], _ :: _ => rfl
  | _ :: _, [] => rfl
  | n :: r, d :: t => by
    have := scr_eqv 0 r t
    cases d <;> simp [toPs, toP, PyData.eqvAll, PyData.eqv, scrEq, this]
theorem scr_eqv2 (n : Nat) : ∀ (ns : List Int) (l : List D), PyData.eqvAll (toPs l) (ns.map .int) = scrEq ns l
  | [], [] => rfl
  | [], _ :: _ => rfl
  | _ :: _, [] => rfl
  | n :: r, d :: t => by
    have := scr_eqv2 0 r t
    cases d with
    | int j =>
      simp only [List.map_cons, toPs, toP, PyData.eqvAll, PyData.eqv, scrEq, this]
      congr 1
      exact Bool.beq_comm
    | bl b =>
      simp only [List.map_cons, toPs, toP, PyData.eqvAll, PyData.eqv, scrEq, this]
      congr 1
      exact Bool.beq_comm
    | _ => simp [toPs, toP, PyData.eqvAll, PyData.eqv, scrEq, this]
theorem eqv_eqb : ∀ (n : Nat) (a b : D), dok n a = true → dok n b = true → PyData.eqv (toP a) (toP b) = eqb a b := by
  intro n
  induction n with
  | zero =>
    intro a b ha hb
    cases a <;> cases b <;> simp_all [dok, toP, PyData.eqv, eqb]
  | succ n ih =>
    have all : ∀ l m : List D, doks n l = true → doks n m = true → PyData.eqvAll (toPs l) (toPs m) = eqbs l m := by
      intro l
      induction l with
      | nil => intro m _ _; cases m <;> simp [toPs, PyData.eqvAll, eqbs]
      | cons d r ihr =>
        intro m h1 h2
        cases m with
        | nil => simp [toPs, PyData.eqvAll, eqbs]
        | cons e t =>
          rw [doks, Bool.and_eq_true] at h1 h2
          simp only [toPs, PyData.eqvAll, eqbs, ih d e h1.1 h2.1, ihr t h1.2 h2.2]
    intro a b ha hb
    cases a with
    | tup l => cases b with
      | tup m => simp only [toP, PyData.eqv, eqb]; exact all l m (by simpa [dok] using ha) (by simpa [dok] using hb)
      | _ => simp_all [dok, toP, PyData.eqv, eqb]
    | lst l => cases b with
      | lst m => simp only [toP, PyData.eqv, eqb]; exact all l m (by simpa [dok] using ha) (by simpa [dok] using hb)
      | scr m => simp only [toP, PyData.eqv, eqb]; exact scr_eqv2 n m l
      | _ => simp_all [dok, toP, PyData.eqv, eqb]
    | scr l => cases b with
      | lst m => simp only [toP, PyData.eqv, eqb]; exact scr_eqv n l m
      | scr m => simp only [toP, PyData.eqv, eqb]; exact eqv_ints l m
      | _ => simp_all [dok, toP, PyData.eqv, eqb]
    | _ => cases b <;> simp_all [dok, toP, PyData.eqv, eqb]
theorem dpAll_ints {K : PySem.W.Frag} {H : Hp} : ∀ ns : List Int, DpAll K H (ns.map V.int) (ns.map PyData.int)
  | [] => .nil
  | n :: r => .cons (.int n) (dpAll_ints r)
mutual
theorem Rep.dp {K : PySem.W.Frag} {F H : Hp} (s : Ex F H) : ∀ {v : V} {d : D} {n : Nat}, Rep K F v d → dok n d = true → Dp K H v (toP d)
  | _, _, _, .non, _ => .non
  | _, _, _, .bl b, _ => .bl b
  | _, _, _, .int i, _ => .int i
  | _, _, _, .str x, _ => .str x
  | _, _, _, .ty _, h => by simp [dok] at h
  | _, _, _, .ref _, h => by simp [dok] at h
  | _, _, 0, .tup _ _, h => by simp [dok] at h
  | _, _, n + 1, .tup e r, h => .tup (tT s e) (Reps.dp (n := n) s r (by simpa [dok] using h))
  | _, _, 0, .lst _ _, h => by simp [dok] at h
  | _, _, n + 1, .lst e r, h => .lst (SqL.of (s _ _ e)) (Reps.dp (n := n) s r (by simpa [dok] using h))
  | _, _, _, .scr (ns := ns) e, _ => .lst (sqL_ex s e) (dpAll_ints ns)
  | _, _, _, .dI _ _ _, h => by simp [dok] at h
  | _, _, _, .dT _ _ _, h => by simp [dok] at h
  | _, _, _, .any _, h => by simp [dok] at h
  | _, _, _, .clo _ _ _ _, h => by simp [dok] at h
  | _, _, _, .fn _ _, h => by simp [dok] at h
  | _, _, _, .ins _ _ _ _, h => by simp [dok] at h
theorem Reps.dp {K : PySem.W.Frag} {F H : Hp} (s : Ex F H) : ∀ {vs : List V} {ds : List D} {n : Nat}, Reps K F vs ds → doks n ds = true → DpAll K H vs (toPs ds)
  | _, _, _, .nil, _ => .nil
  | _, _, n, .cons r t, h => by
    rw [doks, Bool.and_eq_true] at h
    exact .cons (Rep.dp (n := n) s r h.1) (Reps.dp (n := n) s t h.2)
end

/-! ### operators -/
def gEq (a b : D) : Option D := if dok 8 a && dok 8 b then some (.bl (eqb a b)) else none
def gNe (a b : D) : Option D := if dok 8 a && dok 8 b then some (.bl (!eqb a b)) else none
section
variable {K : PySem.W.Frag}
theorem ops_eq : OpS K (rEqD K) gEq := fun F H x y a b d Q s ra rb e q => by
  unfold gEq at e
  split at e
  · rename_i h
    cases e
    rw [Bool.and_eq_true] at h
    refine ⟨toP a, toP b, ra.dp s h.1, rb.dp s h.2, dok_shaped h.1, dok_shaped h.2, ?_⟩
    rw [eqv_eqb 8 a b h.1 h.2]
    exact q _ F H (Grow.refl s) (.bl _)
  · cases e
theorem ops_ne : OpS K (rNeD K) gNe := fun F H x y a b d Q s ra rb e q => by
  unfold gNe at e
  split at e
  · rename_i h
    cases e
    rw [Bool.and_eq_true] at h
    refine ⟨toP a, toP b, ra.dp s h.1, rb.dp s h.2, dok_shaped h.1, dok_shaped h.2, ?_⟩
    rw [eqv_eqb 8 a b h.1 h.2]
    exact q _ F H (Grow.refl s) (.bl _)
  · cases e
/-- two ints -/
def gI (c : Int → Int → Bool) (g : Int → Int → D) : D → D → Option D
  | .int i, .int j => if c i j then some (g i j) else none
  | _, _ => none
theorem ops_I {C : Int → Int → Prop} {c : Int → Int → Bool} {g : Int → Int → V} {g' : Int → Int → D} (hc : ∀ i j, c i j = true → C i j) (hg : ∀ F i j, Rep K F (g i j) (g' i j)) : OpS K (rI C g) (gI c g') := fun F H x y a b d Q s ra rb e q => by
  unfold gI at e
  split at e
  · rename_i i j
    split at e
    · rename_i h
      cases e
      cases ra
      cases rb
      exact ⟨i, j, rfl, rfl, hc i j h, q _ F H (Grow.refl s) (hg F i j)⟩
    · cases e
  · cases e
theorem ops_I0 {g : Int → Int → V} {g' : Int → Int → D} (hg : ∀ F i j, Rep K F (g i j) (g' i j)) : OpS K (rI0 g) (gI (fun _ _ => true) g') := fun F H x y a b d Q s ra rb e q => by
  unfold gI at e
  split at e
  · rename_i i j
    rw [if_pos rfl] at e
    cases e
    cases ra
    cases rb
    exact ⟨i, j, rfl, rfl, q _ F H (Grow.refl s) (hg F i j)⟩
  · cases e
def gSub : D → D → Option D := gI (fun _ _ => true) fun i j => .int (i - j)
def gLt0 : D → D → Option D := gI (fun _ _ => true) fun i j => .bl (decide (i < j))
def gLe0 : D → D → Option D := gI (fun _ _ => true) fun i j => .bl (decide (i ≤ j))
def gGt0 : D → D → Option D := gI (fun _ _ => true) fun i j => .bl (decide (j < i))
def gGe0 : D → D → Option D := gI (fun _ _ => true) fun i j => .bl (decide (j ≤ i))
theorem ops_sub : OpS K (rI0 fun i j => .int (i - j)) gSub := ops_I0 fun _ _ _ => .int _
theorem ops_lt : OpS K (rI0 fun i j => .bl (decide (i < j))) gLt0 := ops_I0 fun _ _ _ => .bl _
theorem ops_le : OpS K (rI0 fun i j => .bl (decide (i ≤ j))) gLe0 := ops_I0 fun _ _ _ => .bl _
theorem ops_gt : OpS K (rI0 fun i j => .bl (decide (j < i))) gGt0 := ops_I0 fun _ _ _ => .bl _
theorem ops_ge : OpS K (rI0 fun i j => .bl (decide (j ≤ i))) gGe0 := ops_I0 fun _ _ _ => .bl _
def gMod : D → D → Option D := gI (fun _ j => decide (0 < j)) fun i j => .int (i % j)
theorem ops_mod : OpS K (rI (fun _ j => 0 < j) fun i j => .int (i % j)) gMod := ops_I (fun _ _ h => of_decide_eq_true h) fun _ _ _ => .int _
def gFdiv : D → D → Option D := gI (fun _ j => decide (0 < j) && decide (j < 1073741824)) fun i j => .int (i / j)
theorem ops_fdiv : OpS K (rI CDiv fun i j => .int (i / j)) gFdiv := ops_I (fun _ _ h => by
  rw [Bool.and_eq_true] at h
  exact ⟨of_decide_eq_true h.1, of_decide_eq_true h.2⟩) fun _ _ _ => .int _
def gPow : D → D → Option D := gI (fun i j => decide (0 ≤ j) && (decide (j ≤ 1000000) && decide (i.natAbs < 2 ^ 64))) fun i j => .int (i ^ j.toNat)
theorem ops_pow : OpS K (rI CPow fun i j => .int (i ^ j.toNat)) gPow := ops_I (fun _ _ h => by
  rw [Bool.and_eq_true, Bool.and_eq_true] at h
  exact ⟨of_decide_eq_true h.1, of_decide_eq_true h.2.1, of_decide_eq_true h.2.2⟩) fun _ _ _ => .int _
def gShl : D → D → Option D := gI (fun i j => decide (0 ≤ j) && (decide (j ≤ 1000000) && decide (i.natAbs < 2 ^ 64))) fun i j => .int (i * 2 ^ j.toNat)
theorem ops_shl : OpS K (rI CPow fun i j => .int (i * 2 ^ j.toNat)) gShl := ops_I (fun _ _ h => by
  rw [Bool.and_eq_true, Bool.and_eq_true] at h
  exact ⟨of_decide_eq_true h.1, of_decide_eq_true h.2.1, of_decide_eq_true h.2.2⟩) fun _ _ _ => .int _
def gBor : D → D → Option D := gI (fun _ _ => true) fun i j => .int (Builtin.bitOr i j)
theorem ops_bor : OpS K (rI0 fun i j => .int (Builtin.bitOr i j)) gBor := ops_I0 fun _ _ _ => .int _

/-- + -/
def gAdd : D → D → Option D
  | .int i, .int j => some (.int (i + j))
  | .tup a, .tup b => if a.length + b.length ≤ 100000 then some (.tup (a ++ b)) else none
  | .lst a, .lst b => if a.length + b.length ≤ 100000 then some (.lst (a ++ b)) else none
  | .str x, .str y => if x.length + y.length ≤ 100000 then some (.str (x ++ y)) else none
  | _, _ => none
def rAddD (K : PySem.W.Frag) : R2 := fun x y H Q => (rI0 (fun i j => .int (i + j))) x y H Q ∨ (rCatA K x y H Q ∨ (rCat x y H Q ∨ ∃ i j, x = .str i ∧ y = .str j ∧ i.length + j.length ≤ sizeLine ∧ Q (.str (i ++ j)) H))
theorem op_addD {X : Cx} : OpR X (binaryOp .Add) (rAddD X.K) := op_add.or (op_catA.or (op_cat.or op_add_str))
theorem ops_add : OpS K (rAddD K) gAdd := fun F H x y a b d Q s ra rb e q => by
  unfold gAdd at e
  split at e
  · cases e
    cases ra
    cases rb
    exact .inl ⟨_, _, rfl, rfl, q _ F H (Grow.refl s) (.int _)⟩
  · split at e
    · rename_i l m hl
      cases e
      cases ra with
      | tup e1 r1 => cases rb with
        | tup e2 r2 =>
          refine .inr (.inl ⟨_, _, _, _, rfl, rfl, tT s e1, tT s e2, by rw [r1.length, r2.length]; exact sz hl, fun h => ?_, fun h1 h2 => ?_, fun h1 h2 p hp => ?_⟩)
          · subst h
            cases r1
            exact q _ F H (Grow.refl s) (.tup e2 r2)
          · subst h2
            cases r2
            rw [List.append_nil] at q
            exact q _ F H (Grow.refl s) (.tup e1 r1)
          · exact q _ _ _ (Grow.add s hp) (.tup upd_same ((r1.append r2).ex (Ex.new (fresh_sub s hp))))
    · cases e
  · split at e
    · rename_i l m hl
      cases e
      cases ra with
      | lst e1 r1 => cases rb with
        | lst e2 r2 =>
          refine .inr (.inr (.inl ⟨_, _, _, _, rfl, rfl, s _ _ e1, s _ _ e2, by rw [r1.length, r2.length]; exact sz hl, fun p hp => ?_⟩))
          exact q _ _ _ (Grow.add s hp) (.lst upd_same ((r1.append r2).ex (Ex.new (fresh_sub s hp))))
    · cases e
  · split at e
    · rename_i hl
      cases e
      cases ra
      cases rb
      exact .inr (.inr (.inr ⟨_, _, rfl, rfl, sz hl, q _ F H (Grow.refl s) (.str _)⟩))
    · cases e
  · cases e
/-! ### t * 1 is t -/
section
open PySem.Spec PyProof.Rows
theorem tuple_mul1 (l : Addr) (items : Array Value) (n : Nat) (dd : Option Addr) (sl : Array (Option Value)) (u : Tok) :
    Meets (Builtin.«tuple.__mul__» ⟨[.ref l, .int 1 u], []⟩) (fun _ R s => s.heap.get? l = some { cls := .type "tuple", dict := dd, data := .seq items n, slots := sl } ∧ R (.ok (.ret (Value.ref l))) s) :=
  .of_wp fun prog w A R s h => by
    obtain ⟨hp, g, d, tk, os⟩ := s
    obtain ⟨hl, h⟩ := h
    have f1 := AutoSeq1.idx_int
    have c0 : (decide ((1 : Int) < -(2 ^ 63)) || decide ((1 : Int) ≥ 2 ^ 63)) = false := by decide
    wp_walk using wpAny_loadPart' hl
    repeat (first
      | (refine wpAny_ite_false (decide_eq_false (by rw [c0]; exact Bool.false_ne_true)) ?_; wp_walk using wpAny_loadPart' hl)
      | (refine wpAny_ite_true (decide_eq_true (by simp)) ?_; wp_walk using wpAny_loadPart' hl))
    exact ⟨_, rfl, h⟩
def rRepT1 (K : PySem.W.Frag) : R2 := fun x y H Q => ∃ l xs, x = .ref l ∧ y = .int 1 ∧ SqT K H l xs ∧ Q (.ref l) H
theorem op_repT1 {X : Cx} : OpR X (binaryOp .Mult) (rRepT1 X.K) := by
  intro pins s σ H x y v u Q I rx ry h
  obtain ⟨l, xs, rfl, rfl, hT, q⟩ := h
  cases rx
  obtain ⟨t, rfl⟩ := ry
  obtain ⟨its, r, ⟨⟨cls, dd, data, sl⟩, ho, hc, n, hd⟩, hs⟩ := I.tuple hT
  simp only at hc hd
  subst hc hd
  exact wpAny_binaryOp_repeat_ref (T := "tuple") (U := "int") (by decide) ⟨_, ho, rfl⟩ (fun s' => typeIs_int s' 1 t) noFill_tuple_mul F.fills_int_mul F.slot_int_rmul repeat_tuple F.slot_int_index.lookup
    (call_meets F.slot_int_rmul (typeIs_int s 1 t) F.entry_int_rmul (F.args_int_rmul_2 _ _) (int_rmul_tuple 1 t l its.toArray n dd sl)
      ⟨ho, rfl, ⟨_, ho, rfl⟩, call_meets F.slot_tuple_mul ⟨_, ho, rfl⟩ F.entry_tuple_mul (F.args_tuple_mul_2 _ _) (tuple_mul1 l its.toArray n dd sl t) ⟨ho, ⟨.ref l, H, I, rfl, q⟩⟩⟩)
end
/-- * : ints (one below 2^64), a list or a tuple by an int -/
def gMul : D → D → Option D
  | .int i, .int j => if (decide (-(2 ^ 64) < i) && decide (i < 2 ^ 64)) || (decide (-(2 ^ 64) < j) && decide (j < 2 ^ 64)) then some (.int (i * j)) else none
  | .lst a, .int k => if decide (0 ≤ k) && (decide (k ≤ 1000) && decide (a.length ≤ 50)) then some (.lst (List.replicate k.toNat a).flatten) else none
  | .tup a, .int k => if decide (1 ≤ k) && (decide (k ≤ 1000) && (decide (a.length ≤ 50) && decide (0 < a.length))) then some (.tup (List.replicate k.toNat a).flatten) else none
  | _, _ => none
def rMulD (K : PySem.W.Frag) : R2 := fun x y H Q => (rI CMul (fun i j => .int (i * j))) x y H Q ∨ (rRep x y H Q ∨ (rRepT K x y H Q ∨ rRepT1 K x y H Q))
theorem op_mulD {X : Cx} : OpR X (binaryOp .Mult) (rMulD X.K) := op_mul.or (op_rep.or (op_repT.or op_repT1))
theorem Reps.rep {F : Hp} {vs : List V} {ds : List D} (r : Reps K F vs ds) : ∀ k : Nat, Reps K F (List.replicate k vs).flatten (List.replicate k ds).flatten
  | 0 => .nil
  | k + 1 => by
    rw [List.replicate_succ, List.replicate_succ, List.flatten_cons, List.flatten_cons]
    exact r.append (Reps.rep r k)
theorem ops_mul : OpS K (rMulD K) gMul := fun F H x y a b d Q s ra rb e q => by
  unfold gMul at e
  split at e
  · split at e
    · rename_i h
      cases e
      cases ra
      cases rb
      refine .inl ⟨_, _, rfl, rfl, ?_, q _ F H (Grow.refl s) (.int _)⟩
      simpa [CMul] using h
    · cases e
  · split at e
    · rename_i h
      cases e
      simp only [Bool.and_eq_true, decide_eq_true_eq] at h
      obtain ⟨h1, h2, h3⟩ := h
      cases rb
      cases ra with
      | lst e1 r1 =>
        refine .inr (.inl ⟨_, _, _, rfl, rfl, s _ _ e1, by omega, by omega, ?_, fun p hp => ?_⟩)
        · rw [r1.length]
          refine sz (Nat.le_trans (Nat.mul_le_mul h3 (show _ ≤ 1000 by omega)) (by decide))
        · exact q _ _ _ (Grow.add s hp) (.lst upd_same ((r1.rep _).ex (Ex.new (fresh_sub s hp))))
    · cases e
  · split at e
    · rename_i h
      cases e
      simp only [Bool.and_eq_true, decide_eq_true_eq] at h
      obtain ⟨h1, h2, h3, h4⟩ := h
      cases rb
      cases ra with
      | tup e1 r1 =>
        have hl := r1.length
        rename_i l k a xs
        by_cases k1 : k = 1
        · subst k1
          refine .inr (.inr (.inr ⟨_, _, rfl, rfl, tT s e1, ?_⟩))
          have e0 : ∀ l : List D, (List.replicate (1 : Int).toNat l).flatten = l := fun l => by
            show ([l] : List (List D)).flatten = l
            simp
          rw [e0] at q
          exact q _ F H (Grow.refl s) (.tup e1 r1)
        refine .inr (.inr (.inl ⟨_, _, _, rfl, rfl, tT s e1, ?_, by omega, h2, by omega, fun p hp => ?_⟩))
        · rintro rfl
          simp at hl
          rw [← hl] at h4
          simp at h4
        · exact q _ _ _ (Grow.add s hp) (.tup upd_same ((r1.rep _).ex (Ex.new (fresh_sub s hp))))
    · cases e
  · cases e
/-- x[i] -/
def gIx : D → D → Option D
  | .tup l, .int i => atI l i
  | .lst l, .int i => atI l i
  | .scr l, .int i => (atI l i).map D.int
  | _, _ => none
theorem atI_reps {F : Hp} {vs : List V} {ds : List D} {i : Int} {d : D} (r : Reps K F vs ds) (h : atI ds i = some d) : ∃ v, atI vs i = some v ∧ Rep K F v d := by
  unfold atI at h ⊢
  rw [r.length]
  cases e : ixN ds.length i with
  | none => rw [e] at h; cases h
  | some j =>
    rw [e] at h
    exact r.getd h
theorem atI_map {α β : Type} (f : α → β) (l : List α) (i : Int) : atI (l.map f) i = (atI l i).map f := by
  unfold atI
  rw [List.length_map]
  cases ixN l.length i with
  | none => rfl
  | some j => simp
theorem ops_ix : OpS K (fun x y H Q => rIxL K x y H Q ∨ rIxT K x y H Q) gIx := fun F H x y a b d Q s ra rb e q => by
  unfold gIx at e
  split at e
  · cases rb
    cases ra with
    | tup e1 r1 =>
      obtain ⟨v, hv, rv⟩ := atI_reps r1 e
      exact .inr ⟨_, _, _, v, rfl, rfl, tT s e1, hv, q v F H (Grow.refl s) rv⟩
  · cases rb
    cases ra with
    | lst e1 r1 =>
      obtain ⟨v, hv, rv⟩ := atI_reps r1 e
      exact .inl ⟨_, _, _, v, rfl, rfl, SqL.of (s _ _ e1), hv, q v F H (Grow.refl s) rv⟩
  · rename_i l i
    cases rb
    cases ra with
    | scr e1 =>
      cases h : atI l i with
      | none => rw [h] at e; cases e
      | some j =>
        rw [h] at e
        cases e
        refine .inl ⟨_, _, _, .int j, rfl, rfl, sqL_ex s e1, ?_, q _ F H (Grow.refl s) (.int j)⟩
        rw [atI_map, h]
        rfl
  · cases e
/-- in, not in -/
def memD (x : D) (l : List D) : Bool := l.any fun z => eqb z x
def gIn : D → D → Option D
  | x, .tup l => if flatD x && l.all flatD then some (.bl (memD x l)) else none
  | x, .lst l => if dok 7 x && doks 7 l then some (.bl (memD x l)) else none
  | _, _ => none
where flatD : D → Bool
  | .non => true
  | .bl _ => true
  | .int _ => true
  | .str _ => true
  | _ => false
def gNotIn (x l : D) : Option D := (gIn x l).bind fun d => match d with
  | .bl b => some (.bl (!b))
  | _ => none
theorem flat_rep {F : Hp} {v : V} {d : D} (r : Rep K F v d) (h : gIn.flatD d = true) : flatV v = true := by
  cases r <;> simp_all [gIn.flatD, flatV]
theorem flat_reps {F : Hp} : ∀ {vs : List V} {ds : List D}, Reps K F vs ds → ds.all gIn.flatD = true → vs.all flatV = true
  | _, _, .nil, _ => rfl
  | _, _, .cons r t, h => by
    simp only [List.all_cons, Bool.and_eq_true] at h ⊢
    exact ⟨flat_rep r h.1, flat_reps t h.2⟩
theorem eqV_eqb {F : Hp} {v u : V} {a b : D} (ra : Rep K F v a) (rb : Rep K F u b) (ha : gIn.flatD a = true) (hb : gIn.flatD b = true) : eqV v u = eqb a b := by
  cases ra <;> cases rb <;> simp_all [gIn.flatD, eqV, eqb]
theorem inV_mem {F : Hp} {v : V} {x : D} (rx : Rep K F v x) (hx : gIn.flatD x = true) : ∀ {vs : List V} {ds : List D}, Reps K F vs ds → ds.all gIn.flatD = true → inV v vs = memD x ds
  | _, _, .nil, _ => rfl
  | _, _, .cons r t, h => by
    simp only [List.all_cons, Bool.and_eq_true] at h
    have := inV_mem rx hx t h.2
    unfold inV memD at this ⊢
    simp only [List.any_cons, eqV_eqb r rx h.1 hx, this]
theorem any_toPs {x : D} (hx : dok 7 x = true) : ∀ {l : List D}, doks 7 l = true → ((toPs l).any fun z => PyData.eqv z (toP x)) = memD x l
  | [], _ => rfl
  | d :: r, h => by
    rw [doks, Bool.and_eq_true] at h
    have := any_toPs hx h.2
    unfold memD at this ⊢
    simp only [toPs, List.any_cons, eqv_eqb 7 d x h.1 hx, this]
theorem dok_mono : ∀ (n : Nat) (d : D), dok n d = true → dok (n + 1) d = true := by
  intro n
  induction n with
  | zero =>
    intro d h
    cases d <;> simp_all [dok]
  | succ n ih =>
    have all : ∀ l : List D, doks n l = true → doks (n + 1) l = true := by
      intro l
      induction l with
      | nil => intro _; simp [doks]
      | cons d r ihr =>
        intro h
        rw [doks, Bool.and_eq_true] at h ⊢
        exact ⟨ih d h.1, ihr h.2⟩
    intro d h
    cases d with
    | tup l => simp only [dok] at h ⊢; exact all l h
    | lst l => simp only [dok] at h ⊢; exact all l h
    | _ => simp_all [dok]
theorem ops_in : OpS K (fun x y H Q => rIn K false x y H Q ∨ rInD K x y H Q) gIn := fun F H x y a b d Q s ra rb e q => by
  unfold gIn at e
  split at e
  · split at e
    · rename_i h
      cases e
      rw [Bool.and_eq_true] at h
      cases rb with
      | tup e1 r1 =>
        refine .inl ⟨_, _, rfl, .inr (tT s e1), flat_rep ra h.1, flat_reps r1 h.2, ?_⟩
        rw [if_neg Bool.false_ne_true, inV_mem ra h.1 r1 h.2]
        exact q _ F H (Grow.refl s) (.bl _)
    · cases e
  · split at e
    · rename_i l h
      cases e
      rw [Bool.and_eq_true] at h
      have h8 : dok 8 (.lst l) = true := by simpa [dok] using h.2
      refine .inr ⟨toP a, toPs l, ra.dp s h.1, rb.dp s h8, dok_shaped (dok_mono 7 a h.1), dok_shaped h8, ?_⟩
      rw [any_toPs h.1 h.2]
      exact q _ F H (Grow.refl s) (.bl _)
    · cases e
  · cases e
theorem ops_notIn : OpS K (fun x y H Q => rIn K true x y H Q ∨ rNotInD K x y H Q) gNotIn := fun F H x y a b d Q s ra rb e q => by
  unfold gNotIn gIn at e
  split at e
  · split at e
    · rename_i h
      cases e
      rw [Bool.and_eq_true] at h
      cases rb with
      | tup e1 r1 =>
        refine .inl ⟨_, _, rfl, .inr (tT s e1), flat_rep ra h.1, flat_reps r1 h.2, ?_⟩
        rw [if_pos rfl, inV_mem ra h.1 r1 h.2]
        exact q _ F H (Grow.refl s) (.bl _)
    · cases e
  · split at e
    · rename_i l h
      cases e
      rw [Bool.and_eq_true] at h
      have h8 : dok 8 (.lst l) = true := by simpa [dok] using h.2
      refine .inr ⟨toP a, toPs l, ra.dp s h.1, rb.dp s h8, dok_shaped (dok_mono 7 a h.1), dok_shaped h8, ?_⟩
      rw [any_toPs h.1 h.2]
      exact q _ F H (Grow.refl s) (.bl _)
    · cases e
  · cases e
/-- is, is not: None, bools -/
def gIsN (a b : D) : Option D := match b with
  | .non => (match a with | .any => none | .non => some (.bl true) | _ => some (.bl false))
  | .bl y => (match a with | .bl x => some (.bl (decide (x = y))) | _ => none)
  | _ => none
def gNotN (a b : D) : Option D := match b with
  | .non => (match a with | .any => none | .non => some (.bl false) | _ => some (.bl true))
  | .bl y => (match a with | .bl x => some (.bl (!decide (x = y))) | _ => none)
  | _ => none
theorem ops_is : OpS K (fun x y H Q => (y = .non ∧ Q (.bl (decide (x = .non))) H) ∨ ∃ a b, x = .bl a ∧ y = .bl b ∧ Q (.bl (decide (a = b))) H) gIsN := fun F H x y a b d Q s ra rb e q => by
  unfold gIsN at e
  split at e
  · cases rb
    refine .inl ⟨rfl, ?_⟩
    cases ra
    all_goals first | (cases e; exact q _ F H (Grow.refl s) (.bl _)) | (cases e; done)
  · cases rb
    cases ra <;> simp at e
    cases e
    exact .inr ⟨_, _, rfl, rfl, q _ F H (Grow.refl s) (.bl _)⟩
  · cases e
theorem ops_isnot : OpS K (fun x y H Q => (y = .non ∧ Q (.bl (!decide (x = .non))) H) ∨ ∃ a b, x = .bl a ∧ y = .bl b ∧ Q (.bl (!decide (a = b))) H) gNotN := fun F H x y a b d Q s ra rb e q => by
  unfold gNotN at e
  split at e
  · cases rb
    refine .inl ⟨rfl, ?_⟩
    cases ra
    all_goals first | (cases e; exact q _ F H (Grow.refl s) (.bl _)) | (cases e; done)
  · cases rb
    cases ra <;> simp at e
    cases e
    exact .inr ⟨_, _, rfl, rfl, q _ F H (Grow.refl s) (.bl _)⟩
  · cases e
end

/-! ### the rules, by construct -/
section
variable {X : Cx} {W : WX} {a b c : Expr} {pos : Pos} {fa fb fc : Env → R D}
theorem de_add (ha : DE X W a fa) (hb : DE X W b fb) : DE X W (.BinOp a .Add b pos) (op2 gAdd fa fb) := de_op op_addD ops_add ha hb
theorem de_sub (ha : DE X W a fa) (hb : DE X W b fb) : DE X W (.BinOp a .Sub b pos) (op2 gSub fa fb) := de_op op_sub ops_sub ha hb
theorem de_mul (ha : DE X W a fa) (hb : DE X W b fb) : DE X W (.BinOp a .Mult b pos) (op2 gMul fa fb) := de_op op_mulD ops_mul ha hb
theorem de_mod (ha : DE X W a fa) (hb : DE X W b fb) : DE X W (.BinOp a .Mod b pos) (op2 gMod fa fb) := de_op op_mod ops_mod ha hb
theorem de_fdiv (ha : DE X W a fa) (hb : DE X W b fb) : DE X W (.BinOp a .FloorDiv b pos) (op2 gFdiv fa fb) := de_op op_fdiv ops_fdiv ha hb
theorem de_pow (ha : DE X W a fa) (hb : DE X W b fb) : DE X W (.BinOp a .Pow b pos) (op2 gPow fa fb) := de_op op_pow ops_pow ha hb
theorem de_shl (ha : DE X W a fa) (hb : DE X W b fb) : DE X W (.BinOp a .LShift b pos) (op2 gShl fa fb) := de_op op_shl ops_shl ha hb
theorem de_bor (ha : DE X W a fa) (hb : DE X W b fb) : DE X W (.BinOp a .BitOr b pos) (op2 gBor fa fb) := de_op op_or ops_bor ha hb
theorem de_eq (hu : X.A.units + 65 < cLine) (ha : DE X W a fa) (hb : DE X W b fb) : DE X W (.Compare a [.Eq] [b] pos) (op2 gEq fa fb) := de_cmp (op_eqD (by omega)) ops_eq ha hb (nomark _)
theorem de_ne (hu : X.A.units + 65 < cLine) (ha : DE X W a fa) (hb : DE X W b fb) : DE X W (.Compare a [.NotEq] [b] pos) (op2 gNe fa fb) := de_cmp (op_neD (by omega)) ops_ne ha hb (nomark _)
theorem de_isN (ha : DE X W a fa) (hb : DE X W b fb) : DE X W (.Compare a [.Is] [b] pos) (op2 gIsN fa fb) := de_cmp (op_isN.or op_is_bl) ops_is ha hb (nomark _)
theorem de_notN (ha : DE X W a fa) (hb : DE X W b fb) : DE X W (.Compare a [.IsNot] [b] pos) (op2 gNotN fa fb) := de_cmp (op_notN.or op_isnot_bl) ops_isnot ha hb (nomark _)
theorem de_in (hu : X.A.units + 65 < cLine) (ha : DE X W a fa) (hb : DE X W b fb) (hm : behindInMarks .In b = false := by rfl) : DE X W (.Compare a [.In] [b] pos) (op2 gIn fa fb) := de_cmp (op_in_seq.or (op_inD hu)) ops_in ha hb hm
theorem de_notIn (hu : X.A.units + 65 < cLine) (ha : DE X W a fa) (hb : DE X W b fb) (hm : behindInMarks .NotIn b = false := by rfl) : DE X W (.Compare a [.NotIn] [b] pos) (op2 gNotIn fa fb) := de_cmp (op_notIn_seq.or (op_notInD hu)) ops_notIn ha hb hm
theorem dt_eq (hu : X.A.units + 65 < cLine) (ha : DE X W a fa) (hb : DE X W b fb) : DT X W (.Compare a [.Eq] [b] pos) (asB (op2 gEq fa fb)) := dt_cmp (op_eqD (by omega)) ops_eq ha hb (nomark _)
theorem dt_ne (hu : X.A.units + 65 < cLine) (ha : DE X W a fa) (hb : DE X W b fb) : DT X W (.Compare a [.NotEq] [b] pos) (asB (op2 gNe fa fb)) := dt_cmp (op_neD (by omega)) ops_ne ha hb (nomark _)
theorem dt_isN (ha : DE X W a fa) (hb : DE X W b fb) : DT X W (.Compare a [.Is] [b] pos) (asB (op2 gIsN fa fb)) := dt_cmp (op_isN.or op_is_bl) ops_is ha hb (nomark _)
theorem dt_notN (ha : DE X W a fa) (hb : DE X W b fb) : DT X W (.Compare a [.IsNot] [b] pos) (asB (op2 gNotN fa fb)) := dt_cmp (op_notN.or op_isnot_bl) ops_isnot ha hb (nomark _)
theorem dt_in (hu : X.A.units + 65 < cLine) (ha : DE X W a fa) (hb : DE X W b fb) (hm : behindInMarks .In b = false := by rfl) : DT X W (.Compare a [.In] [b] pos) (asB (op2 gIn fa fb)) := dt_cmp (op_in_seq.or (op_inD hu)) ops_in ha hb hm
theorem dt_notIn (hu : X.A.units + 65 < cLine) (ha : DE X W a fa) (hb : DE X W b fb) (hm : behindInMarks .NotIn b = false := by rfl) : DT X W (.Compare a [.NotIn] [b] pos) (asB (op2 gNotIn fa fb)) := dt_cmp (op_notIn_seq.or (op_notInD hu)) ops_notIn ha hb hm
theorem de_ix (ha : DE X W a fa) (hb : DE X W b fb) (hs : PlainIx b := by exact fun _ _ => rfl) : DE X W (.Subscript a b pos) (op2 gIx fa fb) :=
  pe_imp (pe_ix (ix_list.or ix_tup) ha hb hs) fun _ _ _ h => op2_of ops_ix h
/-- -e -/
def eNeg (f : Env → R D) : Env → R D := fun ρ => (f ρ).bind fun d => match d with
  | .int i => .ok (.int (-i))
  | _ => .bad
theorem de_neg (ha : DE X W a fa) : DE X W (.UnaryOp .USub a pos) (eNeg fa) := by
  refine pe_imp (pe_un un_neg ha) fun σ H Q hh => ?_
  obtain ⟨F0, H0, F, ρ, S, q⟩ := hh
  unfold eNeg at q
  show tD X.K W fa σ H fun x H1 => ∃ i, x = .int i ∧ Q (.int (-i)) H1
  cases ef : fa ρ with
  | bad => rw [ef] at q; exact q.elim
  | exc c => rw [ef] at q; exact tD_exc S ef q
  | ok d =>
    rw [ef, R.bind_ok] at q
    refine tD_ok S ef fun v F1 H1 g1 r1 => ?_
    cases r1 with
    | int i => exact ⟨i, rfl, q _ F1 H1 g1 (.int _)⟩
    | _ => exact q.elim
end
end DL

set_option Elab.async false
set_option linter.all false
set_option maxRecDepth 100000
set_option maxHeartbeats 1000000
namespace DL
variable [Tabs]
open PySem L2
open Evl (Ex)

/-! ### what a def promises -/
def spD (K : PySem.W.Frag) (n : Nat) (f : List D → R D) : Sp := fun vs H Q E => ∃ F ds, Ex F H ∧ (∀ P ∈ Tabs.all, TabRep F H P) ∧ Reps K F vs ds ∧ ds.length = n ∧ match f ds with
  | .ok d => ∀ v F' H', Grow F H F' H' → Rep K F' v d → Q v H'
  | .exc c => ∀ F' H', Grow F H F' H' → E (.ref c) none H'
  | .bad => False
/-- the def of the name x keeps f, by at most level k -/
structure Fd (P : Program) (w : World) (K : PySem.W.Frag) (mg : Str → Option Value) (base : Heap) (k : Nat) (x : Str) (n : Nat) (f : List D → R D) : Prop where
  ex : ∃ (a : Addr) (fd : FuncData) (ps : List Str), mg x = some (.ref a) ∧ FnOk P w K mg base (L2.CX P w) k a fd ps (spD K n f) ∧ PySem.W.keepIn K (.ref a) = true ∧ Binds K fd ps []
section
variable {X : Cx} {W : WX}
def eCall (f : List D → R D) (as : Env → R (List D)) : Env → R D := fun ρ => (as ρ).bind f
theorem de_call {k j n : Nat} {x : Str} {f : List D → R D} {e : Expr} {es : List Expr} {p pos : Pos} {as : Env → R (List D)} (h : Fd X.prog X.w X.K X.mg X.base k x n f) (hr : Room j X.A) (hk : k ≤ j) (tk : Takes X W) (hg : Gl X x)
    (ha : DA X W (e :: es) as) (hn : (e :: es).length = n := by rfl) (hdb : (x == ("__debug__" : Str)) = false := by decide) (he : starEach (e :: es) X.env = (false, eval e X.env) :: starEach es X.env := by rfl) (hpl : (backTo pos (starEach es X.env)).any (·.1) = false := by rfl)
    (hlen : ∀ ρ ds, as ρ = .ok ds → ds.length = n) : DE X W (.Call (.Name x p) (e :: es) [] pos) (eCall f as) := by
  obtain ⟨a, fd, ps, hm, F, kp, hb⟩ := h.ex
  refine pe_imp (pe_callS F (hr.mono hk) hg hm kp hb (fun σ => passAt tk σ) ha hdb he hpl) fun σ H Q hh => ?_
  obtain ⟨F0, H0, F, ρ, S, q⟩ := hh
  unfold eCall at q
  show tDs X.K W as σ H fun vs H1 => spD X.K n f vs H1 Q (WE W σ)
  cases ea : as ρ with
  | bad => rw [ea] at q; exact q.elim
  | exc c => rw [ea] at q; exact tDs_exc S ea q
  | ok ds =>
    rw [ea, R.bind_ok] at q
    refine tDs_ok S ea fun vs F1 H1 g1 r1 => ⟨F1, ds, g1.sub, (S.go g1).tab, r1, hlen ρ ds ea, ?_⟩
    cases ef : f ds with
    | bad => rw [ef] at q; exact q.elim
    | exc c => rw [ef] at q; exact fun F2 H2 g2 => q F2 H2 (g1.trans g2)
    | ok d => rw [ef] at q; exact fun v F2 H2 g2 => q v F2 H2 (g1.trans g2)
theorem aNil_len {n : Nat} (h : 0 = n) : ∀ ρ ds, aNil ρ = .ok ds → ds.length = n := fun ρ ds e => by cases e; exact h
theorem aCons_len {f : Env → R D} {g : Env → R (List D)} {n : Nat} (hg : ∀ ρ ds, g ρ = .ok ds → ds.length = n) : ∀ ρ ds, aCons f g ρ = .ok ds → ds.length = n + 1 := fun ρ ds e => by
  unfold aCons at e
  cases ef : f ρ with
  | bad => rw [ef] at e; cases e
  | exc c => rw [ef] at e; cases e
  | ok a =>
    rw [ef, R.bind_ok] at e
    cases eg : g ρ with
    | bad => rw [eg] at e; cases e
    | exc c => rw [eg] at e; cases e
    | ok as =>
      rw [eg, R.bind_ok] at e
      cases e
      rw [List.length_cons, hg ρ as eg]
end

/-! ### statements -/
inductive Out where
  | nx (ρ : Env) | rt (d : D) | br (ρ : Env) | ct (ρ : Env) | xc (c : Addr) (ρ : Env)
abbrev SD := Env → Option Out
/-- what is wanted behind an outcome -/
def Wants (K : PySem.W.Frag) (W : WX) (E : Ends) (F0 H0 F : Hp) : Option Out → Prop
  | some (.nx ρ') => ∀ σ' F' H', Ex F F' → Srep K F0 H0 F' H' σ' ρ' → E.nx σ' H'
  | some (.rt d) => ∀ v F' H', Grow F0 H0 F' H' → Rep K F' v d → E.rt v H'
  | some (.br ρ') => ∀ σ' F' H', Ex F F' → Srep K F0 H0 F' H' σ' ρ' → E.bk σ' H'
  | some (.ct ρ') => ∀ σ' F' H', Ex F F' → Srep K F0 H0 F' H' σ' ρ' → E.ct σ' H'
  | some (.xc c ρ') => ∀ σ' F' H', Ex F F' → Srep K F0 H0 F' H' σ' ρ' → W (.ref c) none σ' H'
  | none => False
def tS (K : PySem.W.Frag) (W : WX) (g : SD) : TS := fun E σ H => ∃ F0 H0 F ρ, Srep K F0 H0 F H σ ρ ∧ Wants K W E F0 H0 F (g ρ)
abbrev DS (X : Cx) (W : WX) (st : Stmt) (g : SD) : Prop := PS X st (tS X.K W g)
abbrev DSs (X : Cx) (W : WX) (st : List Stmt) (g : SD) : Prop := PSs X st (tS X.K W g)
theorem Wants.ex {K : PySem.W.Frag} {W : WX} {E : Ends} {F0 H0 F F1 : Hp} {o : Option Out} (e : Ex F F1) (h : Wants K W E F0 H0 F o) : Wants K W E F0 H0 F1 o := by
  cases o with
  | none => exact h
  | some o => cases o with
    | rt d => exact h
    | _ => exact fun σ' F' H' e' S => h σ' F' H' (e.trans e') S
theorem Wants.to {K : PySem.W.Frag} {W : WX} {E E' : Ends} {F0 H0 F : Hp} {o : Option Out} (h : Wants K W E F0 H0 F o) (h1 : ∀ ρ, o = some (.nx ρ) → ∀ σ' F' H', Ex F F' → Srep K F0 H0 F' H' σ' ρ → E'.nx σ' H')
    (h2 : E'.rt = E.rt) (h3 : E'.bk = E.bk) (h4 : E'.ct = E.ct) : Wants K W E' F0 H0 F o := by
  cases o with
  | none => exact h
  | some o => cases o with
    | nx ρ => exact h1 ρ rfl
    | rt d => intro v F' H' g r; rw [h2]; exact h v F' H' g r
    | br ρ => intro σ' F' H' g r; rw [h3]; exact h σ' F' H' g r
    | ct ρ => intro σ' F' H' g r; rw [h4]; exact h σ' F' H' g r
    | xc c ρ => exact h

section
variable {X : Cx} {W : WX} {pos : Pos}
def sNil : SD := fun ρ => some (.nx ρ)
def sSeq (f g : SD) : SD := fun ρ => match f ρ with
  | some (.nx ρ') => g ρ'
  | o => o
theorem dss_nil : DSs X W [] sNil := pss_imp pss_nil fun E σ H ⟨F0, H0, F, ρ, S, q⟩ => q σ F H (Ex.refl F) S
theorem dss_cons {st : Stmt} {rest : List Stmt} {f g : SD} (h1 : DS X W st f) (h2 : DSs X W rest g) : DSs X W (st :: rest) (sSeq f g) := by
  refine pss_imp (pss_cons h1 h2) fun E σ H ⟨F0, H0, F, ρ, S, q⟩ => ?_
  refine ⟨F0, H0, F, ρ, S, ?_⟩
  unfold sSeq at q
  cases ef : f ρ with
  | none => rw [ef] at q; exact q.elim
  | some o => cases o with
    | nx ρ' =>
      rw [ef] at q
      intro σ' F' H' e' S'
      exact ⟨F0, H0, F', ρ', S', q.ex e'⟩
    | _ => rw [ef] at q; exact q
theorem dss_one {st : Stmt} {f : SD} (h1 : DS X W st f) : DSs X W [st] f := pss_one h1
theorem ds_pass : DS X W (.Pass pos) sNil := ps_imp ps_pass fun E σ H ⟨F0, H0, F, ρ, S, q⟩ => q σ F H (Ex.refl F) S
/-- from an expression on -/
def sE (f : Env → R D) (k : D → SD) : SD := fun ρ => match f ρ with
  | .ok d => k d ρ
  | .exc c => some (.xc c ρ)
  | .bad => none
theorem sE_of {K : PySem.W.Frag} {f : Env → R D} {k : D → SD} {E : Ends} {σ : L2.St} {H : Hp} {Q : VK} (h : tS K W (sE f k) E σ H)
    (hk : ∀ F0 H0 F ρ d v F1 H1, Srep K F0 H0 F H σ ρ → Grow F H F1 H1 → Rep K F1 v d → Wants K W E F0 H0 F1 (k d ρ) → Q v H1) : tD K W f σ H Q := by
  obtain ⟨F0, H0, F, ρ, S, q⟩ := h
  unfold sE at q
  cases ef : f ρ with
  | bad => rw [ef] at q; exact q.elim
  | exc c => rw [ef] at q; exact tD_exc S ef fun F' H' g => q σ F' H' g.ef (S.go g)
  | ok d =>
    rw [ef] at q
    exact tD_ok S ef fun v F1 H1 g1 r1 => hk F0 H0 F ρ d v F1 H1 S g1 r1 (Wants.ex g1.ef q)
def sDrop (f : Env → R D) : SD := sE f fun _ ρ => some (.nx ρ)
theorem ds_expr {e : Expr} {f : Env → R D} (h : DE X W e f) (hs : swapsWith e none pos.line X.env = pure false := by rfl) : DS X W (.Expr e pos) (sDrop f) :=
  ps_imp (ps_expr h hs) fun E σ H hh => sE_of hh fun F0 H0 F ρ d v F1 H1 S g r q => q σ F1 H1 (Ex.refl F1) (S.go g)
def sRet (f : Env → R D) : SD := sE f fun d _ => some (.rt d)
theorem ds_ret {e : Expr} {f : Env → R D} (h : DE X W e f) : DS X W (.Return (some e) pos) (sRet f) :=
  ps_imp (ps_ret h) fun E σ H hh => sE_of hh fun F0 H0 F ρ d v F1 H1 S g r q => q v F1 H1 (S.grow.trans g) r
def sIf (c : Env → R Bool) (f g : SD) : SD := fun ρ => match c ρ with
  | .ok b => if b = true then f ρ else g ρ
  | .exc c => some (.xc c ρ)
  | .bad => none
theorem ds_if {c : Expr} {a b : List Stmt} {t : Env → R Bool} {f g : SD} (hc : DT X W c t) (ha : DSs X W a f) (hb : DSs X W b g) : DS X W (.If c a b pos) (sIf t f g) := by
  refine ps_imp (ps_if hc ha hb) fun E σ H ⟨F0, H0, F, ρ, S, q⟩ => ?_
  unfold sIf at q
  show tDt X.K W t σ H fun b H1 => if b = true then tS X.K W f E σ H1 else tS X.K W g E σ H1
  cases ec : t ρ with
  | bad => rw [ec] at q; exact q.elim
  | exc c => rw [ec] at q; exact tDt_exc S ec fun F' H' g => q σ F' H' g.ef (S.go g)
  | ok b =>
    rw [ec] at q
    refine tDt_ok S ec fun F1 H1 g1 => ?_
    cases b with
    | true => rw [if_pos rfl]; exact ⟨F0, H0, F1, ρ, S.go g1, q.ex g1.ef⟩
    | false => rw [if_neg Bool.false_ne_true]; exact ⟨F0, H0, F1, ρ, S.go g1, q.ex g1.ef⟩

/-! ### targets -/
theorem wipe_set {σ : L2.St} {i : Nat} {x : Option V} : ∀ {vs : List Nat}, i ∈ vs → wipe (σ.set i x) vs = wipe σ vs
  | [], h => nomatch h
  | v :: vs, h => by
    show (wipe (σ.set i x) vs).set v none = (wipe σ vs).set v none
    by_cases e : i ∈ vs
    · rw [wipe_set e]
    · have e2 : i = v := by
        rcases List.mem_cons.mp h with z | z
        · exact z
        · exact absurd z e
      subst e2
      have : ∀ (us : List Nat), i ∉ us → wipe (σ.set i x) us = (wipe σ us).set i x := by
        intro us
        induction us with
        | nil => intro _; rfl
        | cons u us ih =>
          intro hu
          have h1 : i ≠ u := fun z => hu (by simp [z])
          have h2 : i ∉ us := fun z => hu (by simp [z])
          show (wipe (σ.set i x) us).set u none = ((wipe σ us).set u none).set i x
          rw [ih h2, List.set_comm _ _ h1]
      rw [this vs e, List.set_set]
def Sm (is : List Nat) (σ σ' : L2.St) : Prop := ∀ vs : List Nat, (∀ i ∈ is, i ∈ vs) → wipe σ' vs = wipe σ vs
theorem Sm.refl (is : List Nat) (σ : L2.St) : Sm is σ σ := fun _ _ => rfl
theorem Sm.trans {is js : List Nat} {σ σ1 σ2 : L2.St} (a : Sm is σ σ1) (b : Sm js σ1 σ2) : Sm (is ++ js) σ σ2 := fun vs h =>
  (b vs fun i hi => h i (List.mem_append_right _ hi)).trans (a vs fun i hi => h i (List.mem_append_left _ hi))
theorem Sm.set (σ : L2.St) (i : Nat) (x : Option V) : Sm [i] σ (σ.set i x) := fun vs h => wipe_set (h i (by simp))
def tG (K : PySem.W.Frag) (is : List Nat) (g : D → Env → Option Env) : TG := fun v σ H Q => ∃ F0 H0 F ρ d ρ', Srep K F0 H0 F H σ ρ ∧ Rep K F v d ∧ g d ρ = some ρ' ∧ ∀ σ', Srep K F0 H0 F H σ' ρ' → Sm is σ σ' → Q σ' H
def tGs (K : PySem.W.Frag) (is : List Nat) (g : List D → Env → Option Env) : TGs := fun vs σ H Q => ∃ F0 H0 F ρ ds ρ', Srep K F0 H0 F H σ ρ ∧ Reps K F vs ds ∧ g ds ρ = some ρ' ∧ ∀ σ', Srep K F0 H0 F H σ' ρ' → Sm is σ σ' → Q σ' H
abbrev DG (X : Cx) (is : List Nat) (tg : Expr) (g : D → Env → Option Env) : Prop := PG X tg (tG X.K is g)
abbrev DGs (X : Cx) (is : List Nat) (tg : List Expr) (g : List D → Env → Option Env) : Prop := PGs X tg (tGs X.K is g)
theorem pg_imp {tg : Expr} {t t' : TG} (h : PG X tg t) (i : ∀ v σ H Q, t' v σ H Q → t v σ H Q) : PG X tg t' := ⟨fun pins s σ H v u Q I r hw => h.run pins s σ H v u Q I r (i v σ H Q hw)⟩
theorem pgs_imp {tg : List Expr} {t t' : TGs} (h : PGs X tg t) (i : ∀ v σ H Q, t' v σ H Q → t v σ H Q) : PGs X tg t' := ⟨fun pins s σ H v u Q I r hw => h.run pins s σ H v u Q I r (i v σ H Q hw)⟩
def gSet (i : Nat) : D → Env → Option Env := fun d ρ => some (ρ.set i (.val d))
theorem dg_name {i : Nat} {x : Str} (hN : X.N.Nodup) (hi : X.N[i]? = some x) (hx : Loc X.env.scope x) (hf : X.fn x = true ∨ X.env.scope.names.lookup x = some .local := by first | exact .inl rfl | exact .inr rfl | assumption) : DG X [i] (.Name x pos) (gSet i) :=
  pg_imp (pg_name hN hi hx hf) fun v σ H Q ⟨F0, H0, F, ρ, d, ρ', S, r, e, q⟩ => by
    cases e
    exact q _ (S.set r) (Sm.set _ _ _)
def gsNil : List D → Env → Option Env := fun ds ρ => match ds with
  | [] => some ρ
  | _ => none
def gsCons (f : D → Env → Option Env) (g : List D → Env → Option Env) : List D → Env → Option Env := fun ds ρ => match ds with
  | d :: r => (f d ρ).bind (g r)
  | [] => none
theorem dgs_nil : DGs X [] [] gsNil := pgs_imp pgs_nil fun vs σ H Q ⟨F0, H0, F, ρ, ds, ρ', S, r, e, q⟩ => by
  cases r with
  | nil => cases e; exact ⟨rfl, q σ S (Sm.refl _ _)⟩
  | cons _ _ => cases e
theorem dgs_cons {is js : List Nat} {e : Expr} {es : List Expr} {f : D → Env → Option Env} {g : List D → Env → Option Env} (h1 : DG X is e f) (h2 : DGs X js es g)
    (hs : (assignEach (e :: es) X.env).map (·.2) = assign e X.env :: (assignEach es X.env).map (·.2) := by rfl) : DGs X (is ++ js) (e :: es) (gsCons f g) := by
  refine pgs_imp (pgs_cons h1 h2 hs) fun vs σ H Q ⟨F0, H0, F, ρ, ds, ρ', S, r, e, q⟩ => ?_
  cases r with
  | nil => cases e
  | @cons v vr d dr rv rr =>
    have e : (f d ρ).bind (g dr) = some ρ' := e
    cases ef : f d ρ with
    | none => rw [ef] at e; cases e
    | some ρ1 =>
      rw [ef] at e
      exact ⟨v, vr, rfl, F0, H0, F, ρ, d, ρ1, S, rv, ef, fun σ1 S1 m1 => ⟨F0, H0, F, ρ1, dr, ρ', S1, rr, e, fun σ2 S2 m2 => q σ2 S2 (m1.trans m2)⟩⟩
def gTupT (n : Nat) (g : List D → Env → Option Env) : D → Env → Option Env := fun d ρ => match d with
  | .tup ds => if ds.length = n then g ds ρ else none
  | _ => none
theorem dg_tup {is : List Nat} {es : List Expr} {k : Nat} {g : List D → Env → Option Env} {n : Nat} (hc : X.calm = true) (h : DGs X is es g)
    (hn : (assignEach es X.env).length = n := by rfl) (hst : (assignEach es X.env).findIdx? (·.1) = none := by rfl) : DG X is (.Tuple es k pos) (gTupT n g) := by
  refine pg_imp (pg_tup hc h hn hst) fun v σ H Q ⟨F0, H0, F, ρ, d, ρ', S, r, e, q⟩ => ?_
  unfold gTupT at e
  split at e
  · split at e
    · rename_i hl
      cases r with
      | tup e1 r1 => exact ⟨_, _, rfl, tT S.sub e1, r1.length.trans hl, F0, H0, F, ρ, _, ρ', S, r1, e, q⟩
    · cases e
  · cases e
/-- target = value -/
def sAsg (f : Env → R D) (g : D → Env → Option Env) : SD := sE f fun d ρ => (g d ρ).map .nx
theorem asg_of {K : PySem.W.Frag} {is : List Nat} {f : Env → R D} {g : D → Env → Option Env} {E : Ends} {σ : L2.St} {H : Hp} (hh : tS K W (sAsg f g) E σ H) : tAsg (tD K W f) (tG K is g) E σ H :=
  sE_of hh fun F0 H0 F ρ d v F1 H1 S g1 r q => by
    cases eg : g d ρ with
    | none => rw [eg] at q; exact q.elim
    | some ρ' =>
      rw [eg] at q
      exact ⟨F0, H0, F1, ρ, d, ρ', S.go g1, r, eg, fun σ' S' _ => q σ' F1 H1 (Ex.refl F1) S'⟩
theorem ds_asg {is : List Nat} {tg e : Expr} {f : Env → R D} {g : D → Env → Option Env} (h : DE X W e f) (hg : DG X is tg g) (hs : swapsWithSole [tg] e pos.line X.env = pure false := by rfl) (hw : swappedStores [tg] e X.env = pure none := by rfl)
    (h1 : (assignEach [tg] X.env).map (·.2) = [assign tg X.env] := by rfl) : DS X W (.Assign [tg] e pos) (sAsg f g) :=
  ps_imp (ps_asg h hg hs hw h1) fun E σ H hh => asg_of hh
/-- a new own object to a name -/
theorem Srep.setOwn' {K : PySem.W.Frag} {F0 H0 F H : Hp} {σ : L2.St} {ρ : Env} (S : Srep K F0 H0 F H σ ρ) {i : Nat} {p : Addr} {u : HO} {o : Ow} (nown : ∀ (j : Nat) o' a, ρ[j]? = some (.own o') → σ[j]? = some (some (.ref a)) → a ≠ p) (fp : F p = none) (h0 : H0 p = none) (hu : H p = some u) (r : OwRep K F u o) :
    Srep K F0 H0 F H (σ.set i (some (.ref p))) (ρ.set i (.own o)) := by
  refine ⟨S.grow, by simp [S.len], fun j e h => ?_, fun j o' h => ?_, fun j k o' o'' a h1 h2 h3 h4 => ?_, S.tab⟩
  · by_cases q : i = j
    · subst q
      by_cases hl : i < ρ.length
      · rw [List.getElem?_set_self hl] at h; cases h
      · rw [List.getElem?_eq_none (by simpa using hl)] at h; cases h
    · rw [List.getElem?_set_ne q] at h
      rw [List.getElem?_set_ne q]
      exact S.val j e h
  · by_cases q : i = j
    · subst q
      by_cases hl : i < ρ.length
      · rw [List.getElem?_set_self hl] at h
        cases h
        exact ⟨p, u, by rw [List.getElem?_set_self (by rw [← S.len]; exact hl)], fp, h0, hu, r⟩
      · rw [List.getElem?_eq_none (by simpa using hl)] at h; cases h
    · rw [List.getElem?_set_ne q] at h
      rw [List.getElem?_set_ne q]
      exact S.own j o' h
  · have one : ∀ (j : Nat) o', (ρ.set i (.own o))[j]? = some (.own o') → (i = j ∧ i < ρ.length) ∨ (i ≠ j ∧ ρ[j]? = some (.own o')) := fun j o' h => by
      by_cases q : i = j
      · subst q
        by_cases hl : i < ρ.length
        · exact .inl ⟨rfl, hl⟩
        · rw [List.getElem?_eq_none (by simpa using hl)] at h; cases h
      · rw [List.getElem?_set_ne q] at h
        exact .inr ⟨q, h⟩
    have at_i : ∀ a, i < ρ.length → (σ.set i (some (.ref p)))[i]? = some (some (.ref a)) → a = p := fun a hl h => by
      rw [List.getElem?_set_self (by rw [← S.len]; exact hl)] at h
      cases h
      rfl
    rcases one j o' h1 with ⟨rfl, hl⟩ | ⟨n1, e1⟩
    · rcases one k o'' h2 with ⟨rfl, _⟩ | ⟨n2, e2⟩
      · rfl
      · rw [List.getElem?_set_ne n2] at h4
        exact absurd (at_i a hl h3) (nown k o'' a e2 h4)
    · rw [List.getElem?_set_ne n1] at h3
      rcases one k o'' h2 with ⟨rfl, hl⟩ | ⟨n2, e2⟩
      · exact absurd (at_i a hl h4) (nown j o' a e1 h3)
      · rw [List.getElem?_set_ne n2] at h4
        exact S.inj j k o' o'' a e1 e2 h3 h4
theorem Srep.nown {K : PySem.W.Frag} {F0 H0 F H : Hp} {σ : L2.St} {ρ : Env} (S : Srep K F0 H0 F H σ ρ) {p : Addr} (hp : H p = none) : ∀ (j : Nat) o' a, ρ[j]? = some (.own o') → σ[j]? = some (some (.ref a)) → a ≠ p := fun j o' a h1 h2 z => by
    obtain ⟨a', u', e1, _, _, e4, _⟩ := S.own j o' h1
    rw [e1] at h2
    cases h2
    rw [z, hp] at e4
    cases e4
theorem Srep.setOwn {K : PySem.W.Frag} {F0 H0 F H F1 H1 : Hp} {σ : L2.St} {ρ : Env} (S : Srep K F0 H0 F H σ ρ) (g : Grow F H F1 H1) {i : Nat} {p : Addr} {u : HO} {o : Ow} (hp : H p = none) (fp : F1 p = none) (hu : H1 p = some u) (r : OwRep K F1 u o) :
    Srep K F0 H0 F1 H1 (σ.set i (some (.ref p))) (ρ.set i (.own o)) := (S.go g).setOwn' (S.nown hp) fp (S.grow.eh.fresh hp) hu r
def sOwn (i : Nat) (f : Env → R Ow) : SD := fun ρ => match f ρ with
  | .ok o => some (.nx (ρ.set i (.own o)))
  | .exc c => some (.xc c ρ)
  | .bad => none
theorem own_of {K : PySem.W.Frag} {i : Nat} {f : Env → R Ow} {E : Ends} {σ : L2.St} {H : Hp} (hh : tS K W (sOwn i f) E σ H) : tAsg (tDo K W f) (gName i) E σ H := by
  obtain ⟨F0, H0, F, ρ, S, q⟩ := hh
  unfold sOwn at q
  refine ⟨F0, H0, F, ρ, S, ?_⟩
  cases ef : f ρ with
  | bad => rw [ef] at q; exact q.elim
  | exc c => rw [ef] at q; exact fun F' H' g => q σ F' H' g.ef (S.go g)
  | ok o =>
    rw [ef] at q
    exact fun p u F' H' hp g fp hu r => q _ F' H' g.ef (S.setOwn g hp fp hu r)
theorem ds_own {i : Nat} {x : Str} {e : Expr} {pos' : Pos} {f : Env → R Ow} (hN : X.N.Nodup) (hi : X.N[i]? = some x) (hx : Loc X.env.scope x) (h : DO X W e f) (hs : swapsWith e (some (.Name x pos')) pos.line X.env = pure false := by rfl) (hf : X.fn x = true ∨ X.env.scope.names.lookup x = some .local := by first | exact .inl rfl | exact .inr rfl | assumption) :
    DS X W (.Assign [.Name x pos'] e pos) (sOwn i f) := ps_imp (ps_set hN hi hx h hs hf) fun E σ H hh => own_of hh
/-- a value to a name -/
def sSet (i : Nat) (f : Env → R D) : SD := sE f fun d ρ => some (.nx (ρ.set i (.val d)))
theorem set_of {K : PySem.W.Frag} {i : Nat} {f : Env → R D} {E : Ends} {σ : L2.St} {H : Hp} (hh : tS K W (sSet i f) E σ H) : tAsg (tD K W f) (gName i) E σ H :=
  sE_of hh fun F0 H0 F ρ d v F1 H1 S g1 r q => q _ F1 H1 (Ex.refl F1) ((S.go g1).set r)
theorem ds_set {i : Nat} {x : Str} {e : Expr} {pos' : Pos} {f : Env → R D} (hN : X.N.Nodup) (hi : X.N[i]? = some x) (hx : Loc X.env.scope x) (h : DE X W e f) (hs : swapsWith e (some (.Name x pos')) pos.line X.env = pure false := by rfl) (hf : X.fn x = true ∨ X.env.scope.names.lookup x = some .local := by first | exact .inl rfl | exact .inr rfl | assumption) :
    DS X W (.Assign [.Name x pos'] e pos) (sSet i f) := ps_imp (ps_set hN hi hx h hs hf) fun E σ H hh => set_of hh

/-! ### several at once: values and new own objects -/
inductive Cells (K : PySem.W.Frag) (H F' H' : Hp) : List V → List Slot → List Addr → Prop
  | nil : Cells K H F' H' [] [] []
  | val {v : V} {d : D} {vs : List V} {cs : List Slot} {as : List Addr} : Rep K F' v d → Cells K H F' H' vs cs as → Cells K H F' H' (v :: vs) (.val d :: cs) as
  | own {p : Addr} {u : HO} {o : Ow} {vs : List V} {cs : List Slot} {as : List Addr} : H p = none → F' p = none → H' p = some u → OwRep K F' u o → p ∉ as → Cells K H F' H' vs cs as → Cells K H F' H' (.ref p :: vs) (.own o :: cs) (p :: as)
theorem Cells.back {K : PySem.W.Frag} {H H1 F F' H' : Hp} : ∀ {vs : List V} {cs : List Slot} {as : List Addr}, Grow F H F' H1 → Cells K H1 F' H' vs cs as → Cells K H F' H' vs cs as
  | _, _, _, _, .nil => .nil
  | _, _, _, g, .val r t => .val r (Cells.back g t)
  | _, _, _, g, .own h f u r n t => .own (g.eh.fresh h) f u r n (Cells.back g t)
theorem Cells.back' {K : PySem.W.Frag} {H H1 F' H' : Hp} (e : ∀ p, H1 p = none → H p = none) : ∀ {vs : List V} {cs : List Slot} {as : List Addr}, Cells K H1 F' H' vs cs as → Cells K H F' H' vs cs as
  | _, _, _, .nil => .nil
  | _, _, _, .val r t => .val r (Cells.back' e t)
  | _, _, _, .own h f u r n t => .own (e _ h) f u r n (Cells.back' e t)
theorem Cells.fresh {K : PySem.W.Frag} {H F' H' : Hp} : ∀ {vs : List V} {cs : List Slot} {as : List Addr}, Cells K H F' H' vs cs as → ∀ a ∈ as, H a = none
  | _, _, _, .nil, a, h => nomatch h
  | _, _, _, .val r t, a, h => Cells.fresh t a h
  | _, _, _, .own h f u r n t, a, hm => by
    rcases List.mem_cons.mp hm with e | e
    · rw [e]; exact h
    · exact Cells.fresh t a e
theorem Cells.length {K : PySem.W.Frag} {H F' H' : Hp} : ∀ {vs : List V} {cs : List Slot} {as : List Addr}, Cells K H F' H' vs cs as → vs.length = cs.length
  | _, _, _, .nil => rfl
  | _, _, _, .val r t => by simp [Cells.length t]
  | _, _, _, .own h f u r n t => by simp [Cells.length t]
def tDm (K : PySem.W.Frag) (W : WX) (f : Env → R (List Slot)) : TA := fun σ H Q => ∃ F0 H0 F ρ, Srep K F0 H0 F H σ ρ ∧ match f ρ with
  | .ok cs => ∀ vs as F' H', Grow F H F' H' → Cells K H F' H' vs cs as → Q vs H'
  | .exc c => ∀ F' H', Grow F H F' H' → W (.ref c) none σ H'
  | .bad => False
abbrev DM (X : Cx) (W : WX) (es : List Expr) (f : Env → R (List Slot)) : Prop := PA X es (tDm X.K W f)
def mNil : Env → R (List Slot) := fun _ => .ok []
def mVal (f : Env → R D) (g : Env → R (List Slot)) : Env → R (List Slot) := fun ρ => (f ρ).bind fun a => (g ρ).bind fun as => .ok (.val a :: as)
def mOwn (f : Env → R Ow) (g : Env → R (List Slot)) : Env → R (List Slot) := fun ρ => (f ρ).bind fun a => (g ρ).bind fun as => .ok (.own a :: as)
theorem dm_nil : DM X W [] mNil := pa_imp pa_nil fun σ H Q ⟨F0, H0, F, ρ, S, q⟩ => q [] [] F H (Grow.refl S.sub) .nil
theorem dm_val {e : Expr} {es : List Expr} {f : Env → R D} {g : Env → R (List Slot)} (h : DE X W e f) (hs : DM X W es g) (hst : starEach (e :: es) X.env = (false, eval e X.env) :: starEach es X.env := by rfl) : DM X W (e :: es) (mVal f g) := by
  refine pa_imp (pa_cons h hs hst) fun σ H Q hh => ?_
  obtain ⟨F0, H0, F, ρ, S, q⟩ := hh
  unfold mVal at q
  cases ef : f ρ with
  | bad => rw [ef] at q; exact q.elim
  | exc c => rw [ef] at q; exact tD_exc S ef q
  | ok a =>
    rw [ef, R.bind_ok] at q
    refine tD_ok S ef fun v F1 H1 g1 r1 => ⟨F0, H0, F1, ρ, S.go g1, ?_⟩
    cases eg : g ρ with
    | bad => rw [eg] at q; exact q.elim
    | exc c => rw [eg] at q; exact fun F2 H2 g2 => q F2 H2 (g1.trans g2)
    | ok cs =>
      rw [eg] at q
      exact fun vs as F2 H2 g2 c2 => q (v :: vs) as F2 H2 (g1.trans g2) (.val (r1.ex g2.ef) (c2.back' fun _ => g1.eh.fresh))
theorem dm_own {e : Expr} {es : List Expr} {f : Env → R Ow} {g : Env → R (List Slot)} (h : DO X W e f) (hs : DM X W es g) (hst : starEach (e :: es) X.env = (false, eval e X.env) :: starEach es X.env := by rfl) : DM X W (e :: es) (mOwn f g) := by
  refine pa_imp (pa_cons h hs hst) fun σ H Q hh => ?_
  obtain ⟨F0, H0, F, ρ, S, q⟩ := hh
  unfold mOwn at q
  refine ⟨F0, H0, F, ρ, S, ?_⟩
  cases ef : f ρ with
  | bad => rw [ef] at q; exact q.elim
  | exc c => rw [ef] at q; exact q
  | ok a =>
    rw [ef, R.bind_ok] at q
    refine fun p u F1 H1 hp g1 fp hu r1 => ⟨F0, H0, F1, ρ, S.go g1, ?_⟩
    cases eg : g ρ with
    | bad => rw [eg] at q; exact q.elim
    | exc c => rw [eg] at q; exact fun F2 H2 g2 => q F2 H2 (g1.trans g2)
    | ok cs =>
      rw [eg] at q
      refine fun vs as F2 H2 g2 c2 => q (.ref p :: vs) (p :: as) F2 H2 (g1.trans g2) (.own hp ((g2.new p u hu r1.notup).trans fp) (g2.eh.at hu r1.notbl) (r1.ex g2.ef) (fun z => ?_) (c2.back' fun _ => g1.eh.fresh))
      have := c2.fresh p z
      rw [hu] at this
      cases this
/-- slots set in turn -/
def setV : List Nat → List V → L2.St → L2.St
  | i :: is, v :: vs, σ => setV is vs (σ.set i (some v))
  | _, _, σ => σ
def setC : List Nat → List Slot → Env → Env
  | i :: is, c :: cs, ρ => setC is cs (ρ.set i c)
  | _, _, ρ => ρ
theorem Srep.cells {K : PySem.W.Frag} {F0 H0 F H H1 : Hp} {vs : List V} {cs : List Slot} {as : List Addr} (c : Cells K H1 F H vs cs as) (e0 : ∀ p, H1 p = none → H0 p = none) : ∀ {is : List Nat} {σ : L2.St} {ρ : Env}, Srep K F0 H0 F H σ ρ → (∀ p ∈ as, ∀ (j : Nat) o' a, ρ[j]? = some (.own o') → σ[j]? = some (some (.ref a)) → a ≠ p) →
    Srep K F0 H0 F H (setV is vs σ) (setC is cs ρ) := by
  induction c with
  | nil =>
    intro is σ ρ S _
    cases is <;> exact S
  | @val v d vs cs as r t ih =>
    intro is σ ρ S nw
    cases is with
    | nil => exact S
    | cons i is =>
      refine ih (S.set r) fun p hp j o' a h1 h2 => ?_
      have q : i ≠ j := fun q => by
        subst q
        by_cases hl : i < ρ.length
        · rw [List.getElem?_set_self hl] at h1; cases h1
        · rw [List.getElem?_eq_none (by simpa using hl)] at h1; cases h1
      rw [List.getElem?_set_ne q] at h1 h2
      exact nw p hp j o' a h1 h2
  | @own p u o vs cs as h f hu r n t ih =>
    intro is σ ρ S nw
    cases is with
    | nil => exact S
    | cons i is =>
      refine ih (S.setOwn' (nw p List.mem_cons_self) f (e0 _ h) hu r) fun p' hp j o' a h1 h2 => ?_
      by_cases q : i = j
      · subst q
        by_cases hl : i < ρ.length
        · rw [List.getElem?_set_self (by rw [← S.len]; exact hl)] at h2
          cases h2
          exact fun z => n (z ▸ hp)
        · rw [List.getElem?_eq_none (by simpa using hl)] at h1; cases h1
      · rw [List.getElem?_set_ne q] at h1 h2
        exact nw p' (List.mem_cons_of_mem _ hp) j o' a h1 h2
/-- several at once -/
def sPar (is : List Nat) (f : Env → R (List Slot)) : SD := fun ρ => match f ρ with
  | .ok cs => if cs.length = is.length then some (.nx (setC is cs ρ)) else none
  | .exc c => some (.xc c ρ)
  | .bad => none
theorem par_of {K : PySem.W.Frag} {is : List Nat} {f : Env → R (List Slot)} {E : Ends} {σ : L2.St} {H : Hp} {Q : List V → Hp → Prop} (hh : tS K W (sPar is f) E σ H)
    (hq : ∀ vs H1, vs.length = is.length → (∀ H2, Ex H1 H2 → (∀ a, H1 a = none → ∀ o, H2 a = some o → ∃ xs, o = .tup xs) → E.nx (setV is vs σ) H2) → Q vs H1) : tDm K W f σ H Q := by
  obtain ⟨F0, H0, F, ρ, S, q⟩ := hh
  unfold sPar at q
  refine ⟨F0, H0, F, ρ, S, ?_⟩
  cases ef : f ρ with
  | bad => rw [ef] at q; exact q.elim
  | exc c => rw [ef] at q; exact fun F' H' g => q σ F' H' g.ef (S.go g)
  | ok cs =>
    rw [ef] at q
    intro vs as F1 H1 g1 c1
    have q : Wants K W E F0 H0 F (if cs.length = is.length then some (Out.nx (setC is cs ρ)) else none) := q
    by_cases hl : cs.length = is.length
    · rw [if_pos hl] at q
      refine hq vs H1 (c1.length.trans hl) fun H2 e2 t2 => ?_
      have S1 : Srep K F0 H0 F1 H1 (setV is vs σ) (setC is cs ρ) := Srep.cells c1 (fun _ => S.grow.eh.fresh) (S.go g1) (fun p hp => S.nown (c1.fresh p hp))
      have g2 : Grow F1 H1 F1 H2 := ⟨Ex.refl _, .of e2, g1.sub.trans e2, fun _ _ _ _ => rfl⟩
      exact q _ F1 H2 g1.ef (S1.go g2)
    · rw [if_neg hl] at q
      exact q.elim
/-- x, y = a, b : plain locals -/
theorem ds_par2 {i j : Nat} {x y : Str} {a b : Expr} {f : Env → R (List Slot)} {px py pt : Pos} {kt k2 pt2} (hc : X.calm = true) (hN : X.N.Nodup) (hi : X.N[i]? = some x) (hj : X.N[j]? = some y) (hij : i ≠ j)
    (hx : X.env.scope.names.lookup x = some .local) (hy : X.env.scope.names.lookup y = some .local) (ha : DM X W [a, b] f)
    (hw : swappedStores [.Tuple [.Name x px, .Name y py] kt pt] (.Tuple [a, b] k2 pt2) X.env = pure (some [x, y]))
    (hs : swapsWithSole [.Tuple [.Name x px, .Name y py] kt pt] (.Tuple [a, b] k2 pt2) pos.line X.env = pure false := by rfl) :
    DS X W (.Assign [.Tuple [.Name x px, .Name y py] kt pt] (.Tuple [a, b] k2 pt2) pos) (sPar [i, j] f) := by
  refine ps_imp (ps_par hc hN hi hj hij hx hy ha hw hs) fun E σ H hh => par_of hh fun vs H1 hl k => ?_
  match vs, hl with
  | [v, w], _ => exact ⟨v, w, rfl, k H1 (Ex.refl H1) (fun a h o h2 => by rw [h] at h2; cases h2)⟩
theorem ds_par3 {i j l : Nat} {x y z : Str} {a b c : Expr} {f : Env → R (List Slot)} {px py pz pt : Pos} {kt k2 pt2} (hc : X.calm = true) (hN : X.N.Nodup) (hi : X.N[i]? = some x) (hj : X.N[j]? = some y) (hl : X.N[l]? = some z) (hij : i ≠ j) (hil : i ≠ l) (hjl : j ≠ l)
    (hx : X.env.scope.names.lookup x = some .local) (hy : X.env.scope.names.lookup y = some .local) (hz : X.env.scope.names.lookup z = some .local) (ha : DM X W [a, b, c] f)
    (hw : swappedStores [.Tuple [.Name x px, .Name y py, .Name z pz] kt pt] (.Tuple [a, b, c] k2 pt2) X.env = pure (some [x, y, z]))
    (hs : swapsWithSole [.Tuple [.Name x px, .Name y py, .Name z pz] kt pt] (.Tuple [a, b, c] k2 pt2) pos.line X.env = pure false := by rfl) :
    DS X W (.Assign [.Tuple [.Name x px, .Name y py, .Name z pz] kt pt] (.Tuple [a, b, c] k2 pt2) pos) (sPar [i, j, l] f) := by
  refine ps_imp (ps_par3 hc hN hi hj hl hij hil hjl hx hy hz ha hw hs) fun E σ H hh => par_of hh fun vs H1 hl k => ?_
  match vs, hl with
  | [u, v, w], _ => exact ⟨u, v, w, rfl, k H1 (Ex.refl H1) (fun a h o h2 => by rw [h] at h2; cases h2)⟩
/-- x, y, .. = a, b, .. the general way: a tuple is made and taken apart -/
def gNames : List Nat → TGs
  | [] => gNil
  | i :: is => gCons (gName i) (gNames is)
theorem gNames_of : ∀ {is : List Nat} {vs : List V} {σ : L2.St} {H : Hp} {Q : L2.St → Hp → Prop}, vs.length = is.length → Q (setV is vs σ) H → gNames is vs σ H Q
  | [], [], _, _, _, _, q => ⟨rfl, q⟩
  | [], _ :: _, _, _, _, h, _ => by simp at h
  | i :: is, [], _, _, _, h, _ => by simp at h
  | i :: is, v :: vs, σ, H, Q, h, q => ⟨v, vs, rfl, gNames_of (is := is) (by simpa using h) q⟩
theorem ds_parT {is : List Nat} {tgs es : List Expr} {f : Env → R (List Slot)} {kt k2 : Nat} {pt pt2 : Pos} (hc : X.calm = true) (hg : PGs X tgs (gNames is)) (ha : DM X W es f)
    (hn : (assignEach tgs X.env).length = is.length := by rfl) (hst : (assignEach tgs X.env).findIdx? (·.1) = none := by rfl) (hsz : is.length ≤ 1000 := by decide)
    (hs : swapsWithSole [.Tuple tgs kt pt] (.Tuple es k2 pt2) pos.line X.env = pure false := by rfl) (hw : swappedStores [.Tuple tgs kt pt] (.Tuple es k2 pt2) X.env = pure none := by rfl)
    (h1 : (assignEach [.Tuple tgs kt pt] X.env).map (·.2) = [assign (.Tuple tgs kt pt) X.env] := by rfl) : DS X W (.Assign [.Tuple tgs kt pt] (.Tuple es k2 pt2) pos) (sPar is f) := by
  refine ps_imp (ps_asg (pe_tup ha) (pg_tup hc hg hn hst) hs hw h1) fun E σ H hh => par_of hh fun vs H1 hl k => ⟨?_, fun p hp => ?_⟩
  · rw [hl]
    exact sz (Nat.le_trans hsz (by decide))
  · refine ⟨p, vs, rfl, SqT.of upd_same, hl, gNames_of hl (k _ (Ex.new hp) fun a h o h2 => ?_)⟩
    by_cases e : a = p
    · subst e
      rw [upd_same] at h2
      cases h2
      exact ⟨_, rfl⟩
    · rw [upd_ne e, h] at h2
      cases h2
theorem pgn_nil : PGs X [] (gNames []) := pgs_nil
theorem pgn_cons {i : Nat} {is : List Nat} {e : Expr} {es : List Expr} (h1 : PG X e (gName i)) (h2 : PGs X es (gNames is)) (hs : (assignEach (e :: es) X.env).map (·.2) = assign e X.env :: (assignEach es X.env).map (·.2) := by rfl) : PGs X (e :: es) (gNames (i :: is)) := pgs_cons h1 h2 hs
end
end DL

set_option Elab.async false
set_option linter.all false
set_option maxRecDepth 100000
set_option maxHeartbeats 1000000
namespace DL
variable [Tabs]
open PySem L2
open Evl (Ex)

/-! ### what is walked -/
/-- the walk of items, as long as what is frozen in F stands -/
structure GoodF (K : PySem.W.Frag) (J : It) (F : Hp) (items : List D) : Prop where
  go : ∀ i F' H', Ex F F' → Ex F' H' → i < items.length → J.go i H'
  stop : ∀ F' H', Ex F F' → Ex F' H' → J.stop items.length H'
  yld : ∀ i F' H' x H'', Ex F F' → Ex F' H' → i < items.length → J.yld i H' x H'' → ∃ F'' d, items[i]? = some d ∧ Grow F' H' F'' H'' ∧ Rep K F'' x d
/-- .. as long as the heap only grows -/
structure GoodG (K : PySem.W.Frag) (J : It) (F H : Hp) (items : List D) : Prop where
  go : ∀ i F' H', Grow F H F' H' → i < items.length → J.go i H'
  stop : ∀ F' H', Grow F H F' H' → J.stop items.length H'
  yld : ∀ i F' H' x H'', Grow F H F' H' → i < items.length → J.yld i H' x H'' → ∃ F'' d, items[i]? = some d ∧ Grow F' H' F'' H'' ∧ Rep K F'' x d
theorem GoodF.grow {K : PySem.W.Frag} {J : It} {F H : Hp} {items : List D} (g : GoodF K J F items) : GoodG K J F H items :=
  ⟨fun i F' H' h hi => g.go i F' H' h.ef h.sub hi, fun F' H' h => g.stop F' H' h.ef h.sub, fun i F' H' x H'' h hi y => g.yld i F' H' x H'' h.ef h.sub hi y⟩
def tI (K : PySem.W.Frag) (W : WX) (f : Env → R (List D)) : TI := fun σ H Q => ∃ F0 H0 F ρ, Srep K F0 H0 F H σ ρ ∧ match f ρ with
  | .ok items => ∀ J F' H', Grow F H F' H' → GoodF K J F' items → Q J H'
  | .exc c => ∀ F' H', Grow F H F' H' → W (.ref c) none σ H'
  | .bad => False
def tIg (K : PySem.W.Frag) (W : WX) (f : Env → R (List D)) : TI := fun σ H Q => ∃ F0 H0 F ρ, Srep K F0 H0 F H σ ρ ∧ match f ρ with
  | .ok items => ∀ J F' H', Grow F H F' H' → GoodG K J F' H' items → Q J H'
  | .exc c => ∀ F' H', Grow F H F' H' → W (.ref c) none σ H'
  | .bad => False
abbrev DI (X : Cx) (W : WX) (tg iter : Expr) (f : Env → R (List D)) : Prop := PI X tg iter (tI X.K W f)
abbrev DIg (X : Cx) (W : WX) (tg iter : Expr) (f : Env → R (List D)) : Prop := PI X tg iter (tIg X.K W f)
section
variable {X : Cx} {W : WX} {pos : Pos}
theorem pi_imp {tg iter : Expr} {t t' : TI} (h : PI X tg iter t) (i : ∀ σ H Q, t' σ H Q → t σ H Q) : PI X tg iter t' := ⟨fun pins s σ H Q I hw => h.run pins s σ H Q I (i σ H Q hw)⟩
theorem dig_of {tg iter : Expr} {f : Env → R (List D)} (h : DI X W tg iter f) : DIg X W tg iter f := pi_imp h fun σ H Q ⟨F0, H0, F, ρ, S, q⟩ => by
  refine ⟨F0, H0, F, ρ, S, ?_⟩
  cases ef : f ρ with
  | bad => rw [ef] at q; exact q
  | exc c => rw [ef] at q; exact q
  | ok items => rw [ef] at q; exact fun J F' H' g h => q J F' H' g h.grow
theorem good_list {K : PySem.W.Frag} {F : Hp} {a : Addr} {xs : List V} {ds : List D} (h : SqL K F a xs) (r : Reps K F xs ds) : GoodF K (Itl K a) F ds := by
  have hl := r.length
  refine ⟨fun i F' H' e s hi => ?_, fun F' H' e s => ?_, fun i F' H' x H'' e s hi y => ?_⟩
  · exact walk_list.goes i H' (by omega) (sqL_ex (e.trans s) h)
  · rw [← hl]
    exact walk_list.stops H' (sqL_ex (e.trans s) h)
  · obtain ⟨e1, e2⟩ := walk_list.yields i H' x H'' (by omega) (sqL_ex (e.trans s) h) y
    subst e1
    obtain ⟨d, h1, h2⟩ := r.get e2
    exact ⟨F', d, h1, Grow.refl s, h2.ex e⟩
theorem good_tup {K : PySem.W.Frag} {F : Hp} {a : Addr} {xs : List V} {ds : List D} (h : SqT K F a xs) (r : Reps K F xs ds) : GoodF K (Itt K a) F ds := by
  have hl := r.length
  refine ⟨fun i F' H' e s hi => ?_, fun F' H' e s => ?_, fun i F' H' x H'' e s hi y => ?_⟩
  · exact walk_tup.goes i H' (by omega) (sqT_ex (e.trans s) h)
  · rw [← hl]
    exact walk_tup.stops H' (sqT_ex (e.trans s) h)
  · obtain ⟨e1, e2⟩ := walk_tup.yields i H' x H'' (by omega) (sqT_ex (e.trans s) h) y
    subst e1
    obtain ⟨d, h1, h2⟩ := r.get e2
    exact ⟨F', d, h1, Grow.refl s, h2.ex e⟩
theorem good_range {K : PySem.W.Frag} {F : Hp} (lo : Int) (n : Nat) : GoodF K (Itr lo n) F ((List.range n).map fun i => .int (lo + (i : Nat))) := by
  refine ⟨fun i F' H' e s hi => ?_, fun F' H' e s => ?_, fun i F' H' x H'' e s hi y => ?_⟩
  · show i < n
    simpa using hi
  · show n ≤ _
    simp
  · obtain ⟨e1, e2⟩ := y
    subst e1 e2
    have hi : i < n := by simpa using hi
    exact ⟨F', .int (lo + i), by simp [hi], Grow.refl s, .int _⟩
/-- over a list or a tuple -/
def iSeq (K : PySem.W.Frag) (tl : TE) : TI := fun σ H R => tl σ H fun x H1 => ∃ a, x = .ref a ∧ (((∃ xs, SqL K H1 a xs) ∧ R (Itl K a) H1) ∨ ((∃ xs, SqT K H1 a xs) ∧ R (Itt K a) H1))
theorem pi_seq {tg l : Expr} {tl : TE} (hl : PE X l tl) : PI X tg l (iSeq X.K tl) := by
  refine ⟨fun pins s σ H R I h => ?_⟩
  refine thn (hl.run pins s σ H _ I h) fun v s1 ⟨x, H1, I1, r1, a, e, q⟩ => ?_
  subst e
  cases r1
  rcases q with ⟨⟨xs, hx⟩, q⟩ | ⟨⟨xs, hx⟩, q⟩
  · obtain ⟨its, rv, pl, hz⟩ := I1.list hx
    refine wpAny_pyIter_list pl.isList ?_
    exact pi_one (tk := s1.toks) I1 _ (turn_list a _) ⟨_, Heap.get?_push_size _ rfl, rfl, rfl⟩ q
  · obtain ⟨its, rv, pl, hz⟩ := I1.tuple hx
    refine wpAny_pyIter_tuple pl ?_
    exact pi_one (tk := s1.toks) I1 _ (turn_tuple a _) ⟨_, Heap.get?_push_size _ rfl, rfl, rfl⟩ q
/-- the items of a list or tuple -/
def itemsD : D → R (List D)
  | .lst l => .ok l
  | .tup l => .ok l
  | .scr ns => .ok (ns.map D.int)
  | _ => .bad
def iSeqD (f : Env → R D) : Env → R (List D) := fun ρ => (f ρ).bind itemsD
theorem di_seq {tg l : Expr} {f : Env → R D} (hl : DE X W l f) : DI X W tg l (iSeqD f) := by
  refine pi_imp (pi_seq hl) fun σ H Q ⟨F0, H0, F, ρ, S, q⟩ => ?_
  unfold iSeqD at q
  cases ef : f ρ with
  | bad => rw [ef] at q; exact q.elim
  | exc c => rw [ef] at q; exact tD_exc S ef q
  | ok d =>
    rw [ef, R.bind_ok] at q
    refine tD_ok S ef fun v F1 H1 g1 r1 => ?_
    cases r1 with
    | lst e r => exact ⟨_, rfl, .inl ⟨⟨_, SqL.of (g1.sub _ _ e)⟩, q _ F1 H1 g1 (good_list (SqL.of e) r)⟩⟩
    | tup e r => exact ⟨_, rfl, .inr ⟨⟨_, tT g1.sub e⟩, q _ F1 H1 g1 (good_tup (SqT.of e) r)⟩⟩
    | scr e => exact ⟨_, rfl, .inl ⟨⟨_, sqL_ex g1.sub e⟩, q _ F1 H1 g1 (good_list e (Reps.ints _))⟩⟩
    | _ => exact q.elim
/-- range(n), range(a, b) -/
def rangeD (lo hi : Int) : List D := (List.range (hi - lo).toNat).map fun i => .int (lo + (i : Nat))
def iRange (f : Env → R (List D)) : Env → R (List D) := fun ρ => (f ρ).bind fun as => match as with
  | [.int j] => if decide (-100000 ≤ j) && decide (j ≤ 100000) then .ok (rangeD 0 j) else .bad
  | [.int i, .int j] => if (decide (-100000 ≤ i) && decide (i ≤ 100000)) && (decide (-100000 ≤ j) && decide (j ≤ 100000)) then .ok (rangeD i j) else .bad
  | _ => .bad
theorem di_range1 {tg a : Expr} {f : Env → R (List D)} {p pos : Pos} (hg : Gl X "range") (hm : X.mg "range" = none) (ha : DA X W [a] f) (hs : starEach [a] X.env = [(false, eval a X.env)] := by rfl) (hl : ∀ ρ ds, f ρ = .ok ds → ds.length = 1) : DI X W tg (.Call (.Name "range" p) [a] [] pos) (iRange f) := by
  refine pi_imp (pi_range1 hg hm ha hs) fun σ H Q ⟨F0, H0, F, ρ, S, q⟩ => ?_
  unfold iRange at q
  cases ef : f ρ with
  | bad => rw [ef] at q; exact q.elim
  | exc c => rw [ef] at q; exact tDs_exc S ef q
  | ok as =>
    rw [ef, R.bind_ok] at q
    refine tDs_ok S ef fun vs F1 H1 g1 r1 => ?_
    match as, hl ρ as ef, r1 with
    | [d], _, .cons r .nil =>
      cases r with
      | int j =>
        have q : (match (if decide (-100000 ≤ j) && decide (j ≤ 100000) then R.ok (rangeD 0 j) else .bad) with
          | .ok items => ∀ J F' H', Grow F H F' H' → GoodF X.K J F' items → Q J H'
          | .exc c => ∀ F' H', Grow F H F' H' → W (.ref c) none σ H'
          | .bad => False) := q
        by_cases h : (decide (-100000 ≤ j) && decide (j ≤ 100000)) = true
        · rw [if_pos h] at q
          simp only [Bool.and_eq_true, decide_eq_true_eq] at h
          refine ⟨j, rfl, by omega, by omega, q _ F1 H1 g1 ?_⟩
          have := good_range (K := X.K) (F := F1) 0 j.toNat
          unfold rangeD
          rw [Int.sub_zero]
          exact this
        · rw [if_neg h] at q
          exact q.elim
      | _ => exact q.elim
theorem di_range2 {tg a b : Expr} {f : Env → R (List D)} {p pos : Pos} (hg : Gl X "range") (hm : X.mg "range" = none) (ha : DA X W [a, b] f) (hs : starEach [a, b] X.env = [(false, eval a X.env), (false, eval b X.env)] := by rfl) (hs2 : starEach [b] X.env = [(false, eval b X.env)] := by rfl)
    (hl : ∀ ρ ds, f ρ = .ok ds → ds.length = 2) : DI X W tg (.Call (.Name "range" p) [a, b] [] pos) (iRange f) := by
  refine pi_imp (pi_range2 hg hm ha hs hs2) fun σ H Q ⟨F0, H0, F, ρ, S, q⟩ => ?_
  unfold iRange at q
  cases ef : f ρ with
  | bad => rw [ef] at q; exact q.elim
  | exc c => rw [ef] at q; exact tDs_exc S ef q
  | ok as =>
    rw [ef, R.bind_ok] at q
    refine tDs_ok S ef fun vs F1 H1 g1 r1 => ?_
    match as, hl ρ as ef, r1 with
    | [d, e], _, .cons r (.cons r' .nil) =>
      cases r with
      | int i => cases r' with
        | int j =>
          have q : (match (if (decide (-100000 ≤ i) && decide (i ≤ 100000)) && (decide (-100000 ≤ j) && decide (j ≤ 100000)) then R.ok (rangeD i j) else .bad) with
            | .ok items => ∀ J F' H', Grow F H F' H' → GoodF X.K J F' items → Q J H'
            | .exc c => ∀ F' H', Grow F H F' H' → W (.ref c) none σ H'
            | .bad => False) := q
          by_cases h : ((decide (-100000 ≤ i) && decide (i ≤ 100000)) && (decide (-100000 ≤ j) && decide (j ≤ 100000))) = true
          · rw [if_pos h] at q
            simp only [Bool.and_eq_true, decide_eq_true_eq] at h
            exact ⟨i, j, rfl, ⟨by omega, by omega, by omega, by omega⟩, q _ F1 H1 g1 (good_range i _)⟩
          · rw [if_neg h] at q
            exact q.elim
        | _ => exact q.elim
      | _ => exact q.elim

/-! ### for, while -/
def forLoop (g : D → Env → Option Env) (b : SD) : List D → SD
  | [] => sNil
  | d :: r => fun ρ => match g d ρ with
    | none => none
    | some ρ1 => match b ρ1 with
      | some (.nx ρ') => forLoop g b r ρ'
      | some (.ct ρ') => forLoop g b r ρ'
      | some (.br ρ') => some (.nx ρ')
      | o => o
def sFor (f : Env → R (List D)) (g : D → Env → Option Env) (b : SD) : SD := fun ρ => match f ρ with
  | .ok items => forLoop g b items ρ
  | .exc c => some (.xc c ρ)
  | .bad => none
theorem ds_for {is : List Nat} {tg iter : Expr} {body : List Stmt} {f : Env → R (List D)} {g : D → Env → Option Env} {b : SD} (hp : PassesOwn (model X.prog X.w) X.A X.env X.xe) (hc : X.calm = true) (hi : DI X W tg iter f) (hg : DG X is tg g) (hb : DSs X W body b)
    (hs : ∀ x, foldedSetIterable iter X.env x = pure x := by intro _; rfl) : DS X W (.For tg iter body [] pos) (sFor f g b) := by
  refine ps_imp (ps_for hp hc hi hg hb hs) fun E σ H ⟨F0, H0, F, ρ, S, q⟩ => ?_
  refine ⟨F0, H0, F, ρ, S, ?_⟩
  unfold sFor at q
  cases ef : f ρ with
  | bad => rw [ef] at q; exact q.elim
  | exc c => rw [ef] at q; exact fun F' H' g => q σ F' H' g.ef (S.go g)
  | ok items =>
    rw [ef] at q
    intro J F1 H1 g1 G
    refine ⟨fun i m σ' H' => m = items.length - i ∧ i ≤ items.length ∧ ∃ F' ρ', Ex F1 F' ∧ Srep X.K F0 H0 F' H' σ' ρ' ∧ Wants X.K W E F0 H0 F' (forLoop g b (items.drop i) ρ'), ⟨items.length, by simp, Nat.zero_le _, F1, ρ, Ex.refl F1, S.go g1, by rw [List.drop_zero]; exact Wants.ex g1.ef q⟩, ?_⟩
    rintro i m σ' H' ⟨rfl, hi, F', ρ', e', S', w'⟩
    by_cases hlt : i < items.length
    · refine .inr ⟨G.go i F' H' e' S'.sub hlt, fun σ'' H'' => ∃ F'' ρ'', Ex F1 F'' ∧ Srep X.K F0 H0 F'' H'' σ'' ρ'' ∧ Wants X.K W E F0 H0 F'' (forLoop g b (items.drop (i + 1)) ρ''), fun σ'' H'' ⟨F'', ρ'', a1, a2, a3⟩ => ⟨items.length - (i + 1), by omega, rfl, hlt, F'', ρ'', a1, a2, a3⟩, fun x H'' y => ?_⟩
      obtain ⟨F'', d, hd, g2, r2⟩ := G.yld i F' H' x H'' e' S'.sub hlt y
      have hdrop : items.drop i = d :: items.drop (i + 1) := by
        rw [List.drop_eq_getElem_cons hlt]
        rw [List.getElem?_eq_getElem hlt] at hd
        cases hd
        rfl
      rw [hdrop] at w'
      have w' : Wants X.K W E F0 H0 F' (match g d ρ' with
        | none => none
        | some ρ1 => match b ρ1 with
          | some (.nx ρ') => forLoop g b (items.drop (i + 1)) ρ'
          | some (.ct ρ') => forLoop g b (items.drop (i + 1)) ρ'
          | some (.br ρ') => some (.nx ρ')
          | o => o) := w'
      cases eg : g d ρ' with
      | none => rw [eg] at w'; exact w'.elim
      | some ρ1 =>
        rw [eg] at w'
        refine ⟨F0, H0, F'', ρ', d, ρ1, S'.go g2, r2, eg, fun σ2 S2 _ => ⟨F0, H0, F'', ρ1, S2, ?_⟩⟩
        have w2 := Wants.ex g2.ef w'
        cases eb : b ρ1 with
        | none => simp only [eb] at w2; exact w2.elim
        | some o =>
          simp only [eb] at w2
          cases o with
          | nx ρ3 => exact fun σ3 F3 H3 e3 S3 => ⟨F3, ρ3, (e'.trans g2.ef).trans e3, S3, Wants.ex e3 w2⟩
          | ct ρ3 => exact fun σ3 F3 H3 e3 S3 => ⟨F3, ρ3, (e'.trans g2.ef).trans e3, S3, Wants.ex e3 w2⟩
          | br ρ3 => exact w2
          | rt d => exact w2
          | xc c ρ3 => exact w2
    · have e : i = items.length := by omega
      subst e
      rw [List.drop_length] at w'
      exact .inl ⟨G.stop F' H' e' S'.sub, w' σ' F' H' (Ex.refl F') S'⟩
def whileN (c : Env → R Bool) (b : SD) : Nat → SD
  | 0 => fun _ => none
  | n + 1 => fun ρ => match c ρ with
    | .ok true => (match b ρ with
      | some (.nx ρ') => whileN c b n ρ'
      | some (.ct ρ') => whileN c b n ρ'
      | some (.br ρ') => some (.nx ρ')
      | o => o)
    | .ok false => some (.nx ρ)
    | .exc x => some (.xc x ρ)
    | .bad => none
theorem ds_while (n : Nat) {c : Expr} {body : List Stmt} {t : Env → R Bool} {b : SD} (hp : PassesOwn (model X.prog X.w) X.A X.env X.xe) (hc : DT X W c t) (hb : DSs X W body b) : DS X W (.While c body [] pos) (whileN t b n) := by
  refine ps_imp (ps_while hp hc hb) fun E σ H ⟨F0, H0, F, ρ, S, q⟩ => ?_
  refine ⟨fun m σ' H' => ∃ F' ρ', Srep X.K F0 H0 F' H' σ' ρ' ∧ Wants X.K W E F0 H0 F' (whileN t b m ρ'), ⟨n, F, ρ, S, q⟩, ?_⟩
  rintro m σ' H' ⟨F', ρ', S', w'⟩
  cases m with
  | zero => exact w'.elim
  | succ m =>
    have w' : Wants X.K W E F0 H0 F' (match t ρ' with
      | .ok true => (match b ρ' with
        | some (.nx ρ') => whileN t b m ρ'
        | some (.ct ρ') => whileN t b m ρ'
        | some (.br ρ') => some (.nx ρ')
        | o => o)
      | .ok false => some (.nx ρ')
      | .exc x => some (.xc x ρ')
      | .bad => none) := w'
    cases et : t ρ' with
    | bad => rw [et] at w'; exact w'.elim
    | exc c => rw [et] at w'; exact tDt_exc S' et fun F2 H2 g2 => w' σ' F2 H2 g2.ef (S'.go g2)
    | ok k =>
      refine tDt_ok S' et fun F2 H2 g2 => ?_
      rw [et] at w'
      cases k with
      | false =>
        rw [if_neg Bool.false_ne_true]
        exact w' σ' F2 H2 g2.ef (S'.go g2)
      | true =>
        rw [if_pos rfl]
        refine ⟨fun σ3 H3 => ∃ F3 ρ3, Srep X.K F0 H0 F3 H3 σ3 ρ3 ∧ Wants X.K W E F0 H0 F3 (whileN t b m ρ3), fun σ3 H3 ⟨F3, ρ3, a1, a2⟩ => ⟨m, Nat.lt_succ_self m, F3, ρ3, a1, a2⟩, F0, H0, F2, ρ', S'.go g2, ?_⟩
        have w2 := Wants.ex g2.ef w'
        cases eb : b ρ' with
        | none => simp only [eb] at w2; exact w2.elim
        | some o =>
          simp only [eb] at w2
          cases o with
          | nx ρ3 => exact fun σ3 F3 H3 e3 S3 => ⟨F3, ρ3, S3, Wants.ex e3 w2⟩
          | ct ρ3 => exact fun σ3 F3 H3 e3 S3 => ⟨F3, ρ3, S3, Wants.ex e3 w2⟩
          | br ρ3 => exact w2
          | rt d => exact w2
          | xc c ρ3 => exact w2

/-! ### list comprehensions -/
def WN : WX := fun _ _ _ _ => False
def wipeE (ρ : Env) : List Nat → Env
  | [] => ρ
  | v :: vs => (wipeE ρ vs).set v .un
theorem Srep.forget {K : PySem.W.Frag} {F0 H0 F H : Hp} {σ : L2.St} {ρ : Env} (S : Srep K F0 H0 F H σ ρ) (i : Nat) : Srep K F0 H0 F H (σ.set i none) (ρ.set i .un) := by
  have ne : ∀ (j : Nat) (c : Slot), (ρ.set i .un)[j]? = some c → c ≠ .un → i ≠ j ∧ ρ[j]? = some c := fun j c h hc => by
    have q : i ≠ j := fun q => by
      subst q
      by_cases hl : i < ρ.length
      · rw [List.getElem?_set_self hl] at h; cases h; exact hc rfl
      · rw [List.getElem?_eq_none (by simpa using hl)] at h; cases h
    rw [List.getElem?_set_ne q] at h
    exact ⟨q, h⟩
  refine ⟨S.grow, by simp [S.len], fun j e h => ?_, fun j o h => ?_, fun j k o o' a h1 h2 h3 h4 => ?_, S.tab⟩
  · obtain ⟨q, h⟩ := ne j _ h (by intro z; cases z)
    rw [List.getElem?_set_ne q]
    exact S.val j e h
  · obtain ⟨q, h⟩ := ne j _ h (by intro z; cases z)
    rw [List.getElem?_set_ne q]
    exact S.own j o h
  · obtain ⟨q1, h1⟩ := ne j _ h1 (by intro z; cases z)
    obtain ⟨q2, h2⟩ := ne k _ h2 (by intro z; cases z)
    rw [List.getElem?_set_ne q1] at h3
    rw [List.getElem?_set_ne q2] at h4
    exact S.inj j k o o' a h1 h2 h3 h4
theorem Srep.wipe {K : PySem.W.Frag} {F0 H0 F H : Hp} {σ : L2.St} {ρ : Env} (S : Srep K F0 H0 F H σ ρ) : ∀ vs : List Nat, Srep K F0 H0 F H (L2.wipe σ vs) (wipeE ρ vs)
  | [] => S
  | v :: vs => (Srep.wipe S vs).forget v
def nox {α : Type} : R α → R α
  | .exc _ => .bad
  | x => x
def lcLoop (g : D → Env → Option Env) (t : Env → R Bool) (e : Env → R D) (ρ : Env) : List D → R (List D)
  | [] => .ok []
  | d :: r => match g d ρ with
    | none => .bad
    | some ρ1 => match t ρ1 with
      | .ok true => (match e ρ1 with
        | .ok y => (lcLoop g t e ρ r).bind fun ys => .ok (y :: ys)
        | _ => .bad)
      | .ok false => lcLoop g t e ρ r
      | _ => .bad
theorem lcLoop_len {g : D → Env → Option Env} {t : Env → R Bool} {e : Env → R D} {ρ : Env} : ∀ {ds ys : List D}, lcLoop g t e ρ ds = .ok ys → ys.length ≤ ds.length
  | [], _, h => by cases h; simp
  | d :: r, ys, h => by
    unfold lcLoop at h
    split at h
    · cases h
    · split at h
      · split at h
        · cases q : lcLoop g t e ρ r with
          | ok zs =>
            rw [q] at h
            cases h
            have := lcLoop_len q
            simp
            omega
          | exc c => rw [q] at h; cases h
          | bad => rw [q] at h; cases h
        · cases h
      · have := lcLoop_len h
        simp
        omega
      · cases h
def oLc (f : Env → R (List D)) (g : D → Env → Option Env) (t : Env → R Bool) (e : Env → R D) (vs : List Nat) : Env → R Ow := fun ρ => (f ρ).bind fun items => if items.length ≤ 100000 then (lcLoop g t e (wipeE ρ vs) items).bind fun ys => .ok (.lst ys) else .bad
abbrev DTs (X : Cx) (W : WX) (ifs : List Expr) (f : Env → R Bool) : Prop := PTs X ifs (tDt X.K W f)
def bYes : Env → R Bool := fun _ => .ok true
theorem pts_imp {ifs : List Expr} {t t' : TT} (h : PTs X ifs t) (i : ∀ σ H Q, t' σ H Q → t σ H Q) : PTs X ifs t' := ⟨fun pins s σ H Q I hw => h.run pins s σ H Q I (i σ H Q hw)⟩
theorem dts_nil : DTs X W [] bYes := pts_imp pts_nil fun σ H Q ⟨F0, H0, F, ρ, S, q⟩ => q F H (Grow.refl S.sub)
theorem dts_one {c : Expr} {f : Env → R Bool} (h : DT X W c f) : DTs X W [c] f := pts_one h
theorem lc_of {K : PySem.W.Frag} {is vs : List Nat} {f : Env → R (List D)} {g : D → Env → Option Env} {t : Env → R Bool} {e : Env → R D} (his : ∀ i ∈ is, i ∈ vs) {σ : L2.St} {H : Hp} {Q : VK} (hh : tDo K W (oLc f g t e vs) σ H Q) :
    tLc (tIg K W f) (tG K is g) (tDt K WN t) (tD K WN e) vs σ H Q := by
  obtain ⟨F0, H0, F, ρ, S, q⟩ := hh
  unfold oLc at q
  refine ⟨F0, H0, F, ρ, S, ?_⟩
  cases ef : f ρ with
  | bad => rw [ef] at q; exact q.elim
  | exc c => rw [ef] at q; exact q
  | ok items =>
    rw [ef, R.bind_ok] at q
    by_cases hlen : items.length ≤ 100000
    rotate_left
    · rw [if_neg hlen] at q; exact q.elim
    rw [if_pos hlen] at q
    cases el : lcLoop g t e (wipeE ρ vs) items with
    | bad => rw [el] at q; exact q.elim
    | exc c =>
      exfalso
      have : ∀ ds, ∀ c, lcLoop g t e (wipeE ρ vs) ds ≠ .exc c := by
        intro ds
        induction ds with
        | nil => intro c h; cases h
        | cons d r ih =>
          intro c h
          unfold lcLoop at h
          split at h
          · cases h
          · split at h
            · split at h
              · cases q : lcLoop g t e (wipeE ρ vs) r with
                | ok zs => rw [q] at h; cases h
                | exc c' => exact ih c' q
                | bad => rw [q] at h; cases h
              · cases h
            · exact ih c h
            · cases h
      exact this items c el
    | ok total =>
      rw [el, R.bind_ok] at q
      intro J F1 H1 g1 G Dl hD
      have hDH : H Dl = none := g1.eh.fresh hD
      refine ⟨fun i m H' => m = items.length - i ∧ i ≤ items.length ∧ ∃ F' acc ds ys, Grow F1 H1 F' H' ∧ F' Dl = none ∧ H' Dl = some (.lst acc) ∧ Reps K F' acc ds ∧ acc.length ≤ i ∧ lcLoop g t e (wipeE ρ vs) (items.drop i) = .ok ys ∧ ds ++ ys = total, ?_, ?_⟩
      · refine ⟨items.length, by simp, Nat.zero_le _, F1, [], [], total, Grow.addH g1.sub hD, fresh_sub g1.sub hD, upd_same, .nil, Nat.le_refl 0, by rw [List.drop_zero]; exact el, rfl⟩
      · rintro i m H' ⟨rfl, hi, F', acc, ds, ys, g2, fD, hDl, ra, hla, hl, ht⟩
        by_cases hlt : i < items.length
        · refine .inr ⟨G.go i F' H' g2 hlt, fun H'' => ∃ F' acc ds ys, Grow F1 H1 F' H'' ∧ F' Dl = none ∧ H'' Dl = some (.lst acc) ∧ Reps K F' acc ds ∧ acc.length ≤ i + 1 ∧ lcLoop g t e (wipeE ρ vs) (items.drop (i + 1)) = .ok ys ∧ ds ++ ys = total, fun H'' h => ⟨items.length - (i + 1), by omega, rfl, hlt, h⟩, fun x H'' y => ?_⟩
          obtain ⟨F'', d, hd, g3, r3⟩ := G.yld i F' H' x H'' g2 hlt y
          have hdrop : items.drop i = d :: items.drop (i + 1) := by
            rw [List.drop_eq_getElem_cons hlt]
            rw [List.getElem?_eq_getElem hlt] at hd
            cases hd
            rfl
          rw [hdrop] at hl
          unfold lcLoop at hl
          cases eg : g d (wipeE ρ vs) with
          | none => rw [eg] at hl; cases hl
          | some ρ1 =>
            simp only [eg] at hl
            have S2 : Srep K F0 H0 F'' H'' (L2.wipe σ vs) (wipeE ρ vs) := (((S.go g1).go g2).go g3).wipe vs
            refine ⟨F0, H0, F'', wipeE ρ vs, d, ρ1, S2, r3, eg, fun σ2 S3 sm => ⟨?_, ?_⟩⟩
            · have := sm vs his
              rw [this]
              have idem : ∀ us : List Nat, ∀ τ : L2.St, (∀ u ∈ us, u ∈ vs) → L2.wipe (L2.wipe τ vs) us = L2.wipe τ vs := by
                intro us
                induction us with
                | nil => intro τ _; rfl
                | cons u us ih =>
                  intro τ hu
                  show (L2.wipe (L2.wipe τ vs) us).set u none = _
                  rw [ih τ fun z hz => hu z (List.mem_cons_of_mem _ hz)]
                  have hu' := hu u List.mem_cons_self
                  apply List.ext_getElem?
                  intro k
                  by_cases hk : u = k
                  · subst hk
                    by_cases hl : u < (L2.wipe τ vs).length
                    · rw [List.getElem?_set_self hl]
                      cases hv : (L2.wipe τ vs)[u]? with
                      | none => rw [List.getElem?_eq_none_iff] at hv; omega
                      | some o => cases o with
                        | none => rfl
                        | some z => exact absurd hu' (wipe_some hv).2
                    · rw [List.getElem?_eq_none (by simpa using hl), List.getElem?_eq_none (by simpa using hl)]
                  · rw [List.getElem?_set_ne hk]
              exact idem vs σ fun _ h => h
            · cases et : t ρ1 with
              | bad => simp only [et] at hl; cases hl
              | exc c => simp only [et] at hl; cases hl
              | ok b =>
                refine tDt_ok S3 et fun F3 H3 g4 => ?_
                cases b with
                | false =>
                  rw [if_neg Bool.false_ne_true]
                  simp only [et] at hl
                  have G4 := (g3.trans g4)
                  refine ⟨F3, acc, ds, ys, g2.trans G4, ?_, G4.eh.at hDl, ra.ex G4.ef, by omega, hl, ht⟩
                  exact (G4.new Dl _ hDl (by intro xs z; cases z)).trans fD
                | true =>
                  rw [if_pos rfl]
                  simp only [et] at hl
                  cases ee : e ρ1 with
                  | bad => simp only [ee] at hl; cases hl
                  | exc c => simp only [ee] at hl; cases hl
                  | ok yd =>
                    simp only [ee] at hl
                    cases er : lcLoop g t e (wipeE ρ vs) (items.drop (i + 1)) with
                    | bad => rw [er] at hl; cases hl
                    | exc c => rw [er] at hl; cases hl
                    | ok zs =>
                      rw [er] at hl
                      cases hl
                      refine tD_ok (S3.go g4) ee fun yv F4 H4 g5 r5 => ?_
                      have G5 := ((g3.trans g4).trans g5)
                      have fD4 : F4 Dl = none := (G5.new Dl _ hDl (by intro xs z; cases z)).trans fD
                      refine ⟨acc, G5.eh.at hDl, Nat.lt_of_le_of_lt (Nat.le_trans hla (Nat.le_of_lt hlt)) (Nat.lt_of_le_of_lt hlen (by rw [sizeLine_eq]; decide)), F4, acc ++ [yv], ds ++ [yd], zs, ?_, fD4, upd_same, (ra.ex G5.ef).append (.cons r5 .nil), by simp; omega, rfl, ?_⟩
                      · have G6 := g2.trans G5
                        refine ⟨G6.ef, G6.eh.mut hD, fun a o h => ?_, G6.new⟩
                        rw [upd_ne (fun z => by rw [z, fD4] at h; cases h)]
                        exact G6.sub a o h
                      · rw [← ht]; simp
        · have e : i = items.length := by omega
          subst e
          rw [List.drop_length] at hl
          cases hl
          rw [List.append_nil] at ht
          subst ht
          exact .inl ⟨G.stop F' H' g2, q Dl _ F' H' hDH (g1.trans g2) fD hDl ⟨acc, rfl, ra⟩⟩
theorem do_lc {is : List Nat} {elt tg iter : Expr} {ifs : List Expr} {scope : Scope} {own : List (Str × Nat)} {f : Env → R (List D)} {g : D → Env → Option Env} {t : Env → R Bool} {e : Env → R D} (hc : X.calm = true) (hN : X.N.Nodup) (hi : DIg X W tg iter f) (ok : BlkOk X.N X.env.scope scope own)
    (hg : ∀ (s : Shared) (H : Hp) (C : Addr) (cl : List (Str × Addr)) (fp : List Addr), DG (X.blk s H scope (compEnvC scope cl C X.env) fp) is tg g) (ht : ∀ (s : Shared) (H : Hp) (C : Addr) (cl : List (Str × Addr)) (fp : List Addr), DTs (X.blk s H scope (compEnvC scope cl C X.env) fp) WN ifs t)
    (he : ∀ (s : Shared) (H : Hp) (C : Addr) (cl : List (Str × Addr)) (fp : List Addr), DE (X.blk s H scope (compEnvC scope cl C X.env) fp) WN elt e) (his : ∀ i ∈ is, i ∈ own.map (·.2) := by decide) (hs : ∀ x, foldedSetIterable iter X.env x = pure x := by intro _; rfl) :
    DO X W (.ListComp elt [⟨tg, iter, ifs, 0⟩] scope pos) (oLc f g t e (own.map (·.2))) :=
  pe_imp (pe_lc hc hN hi ok hg ht he hs) fun σ H Q hh => lc_of his hh
/-- name = [..] on one line -/
theorem ds_ownLc {is : List Nat} {i : Nat} {y : Str} {py : Pos} {elt tg iter : Expr} {ifs : List Expr} {scope : Scope} {own : List (Str × Nat)} {spos : Pos} {f : Env → R (List D)} {g : D → Env → Option Env} {t : Env → R Bool} {e : Env → R D} (hc : X.calm = true) (hN : X.N.Nodup) (hy : X.N[i]? = some y) (hyl : X.env.scope.names.lookup y = some .local)
    (hsw : swapsWith (.ListComp elt [⟨tg, iter, ifs, 0⟩] scope pos) (some (.Name y py)) spos.line X.env = pure true) (hi : DIg X W tg iter f) (ok : BlkOk X.N X.env.scope scope own)
    (hg : ∀ (s : Shared) (H : Hp) (C : Addr) (cl : List (Str × Addr)) (fp : List Addr), DG (X.blk s H scope (compEnvC scope cl C X.env) fp) is tg g) (ht : ∀ (s : Shared) (H : Hp) (C : Addr) (cl : List (Str × Addr)) (fp : List Addr), DTs (X.blk s H scope (compEnvC scope cl C X.env) fp) WN ifs t)
    (he : ∀ (s : Shared) (H : Hp) (C : Addr) (cl : List (Str × Addr)) (fp : List Addr), DE (X.blk s H scope (compEnvC scope cl C X.env) fp) WN elt e) (his : ∀ i ∈ is, i ∈ own.map (·.2) := by decide) (hs : ∀ x, foldedSetIterable iter X.env x = pure x := by intro _; rfl) :
    DS X W (.Assign [.Name y py] (.ListComp elt [⟨tg, iter, ifs, 0⟩] scope pos) spos) (sOwn i (oLc f g t e (own.map (·.2)))) :=
  ps_imp (ps_setLc hc hN hy hyl hsw hi ok hg ht he hs) fun E σ H hh => by
    have h := own_of hh
    exact lc_of (Q := fun x H1 => gName i x σ H1 E.nx) his h
end
end DL

set_option Elab.async false
set_option linter.all false
set_option maxRecDepth 100000
set_option maxHeartbeats 1000000
namespace DL
variable [Tabs]
open PySem L2
open Evl (Ex)
section
variable {X : Cx} {W : WX} {pos : Pos}
/-! ### freezing -/
/-- the value behind an expression is locked for good -/
theorem pe_lk {e : Expr} {t : TE} (h : PE X e t) : PE X e (fun σ H Q => t σ H fun v H1 => ∃ a u, v = .ref a ∧ H1 a = some u ∧ Mut (some u) ∧ ∀ od, Q v (upd H1 a (.frz od u))) := by
  refine ⟨fun pins s σ H Q I hw => ?_⟩
  refine thn (h.run pins s σ H _ I hw) fun v s1 ⟨x, H1, I1, r1, a, u, e, hu, mu, q⟩ => ?_
  obtain ⟨od, I2⟩ := I1.lock hu mu
  exact ⟨x, _, I2, r1, q od⟩
/-- .. a tracked object ahead of a block -/
theorem pss_lk {st : List Stmt} {t : TS} (h : PSs X st t) : PSs X st (fun E σ H => ∃ a u, H a = some u ∧ Mut (some u) ∧ ∀ od, t E σ (upd H a (.frz od u))) := by
  refine ⟨fun pins s σ H E I hw => ?_⟩
  obtain ⟨a, u, hu, mu, q⟩ := hw
  obtain ⟨od, I2⟩ := I.lock hu mu
  exact h.run pins s σ _ E I2 (q od)
def owD : Ow → D
  | .lst ds => .lst ds
  | .dI ks vs => .dI ks vs
  | .dT ks vs => .dT ks vs
  | .dN _ => .any
def eOw (f : Env → R Ow) : Env → R D := fun ρ => (f ρ).bind fun o => .ok (owD o)
/-- own objects of H, locked: the heaps behind -/
theorem Grow.lk {F H : Hp} {p : Addr} {u : HO} {o : Obj} (s : Ex F H) (fp : F p = none) : Ex F (upd F p (.frz o u)) ∧ Ex (upd F p (.frz o u)) (upd H p (.frz o u)) := ⟨Ex.new fp, ex_upd2 s⟩
theorem grow_frz {F H F' H' : Hp} {p : Addr} {o : HO} (g : Grow F H F' H') (hp : H p = none) (fp : F' p = none) : Grow F H (upd F' p o) (upd H' p o) :=
  ⟨g.ef.trans (Ex.new fp), (g.eh.up (Ex.new fp)).mut hp, ex_upd2 g.sub, fun a x h n => by
    rw [upd_ne (ne_of_none h hp)]
    exact g.new a x h n⟩
theorem grow_frzL {F H F' H' : Hp} {p : Addr} {o : HO} (g : Grow F H F' H') (hp : H p = none) (fp : F' p = none) (hu : H' p = some o) : Grow F H (upd F' p o) H' :=
  ⟨g.ef.trans (Ex.new fp), g.eh.up (Ex.new fp), fun a x h => by
    by_cases e : a = p
    · subst e; rw [upd_same] at h; rw [hu]; exact h
    · rw [upd_ne e] at h; exact g.sub a x h, fun a x h n => by
    rw [upd_ne (ne_of_none h hp)]
    exact g.new a x h n⟩
theorem rep_frz {K : PySem.W.Frag} {F : Hp} {p : Addr} {u : HO} {od : Obj} (fp : F p = none) : ∀ {o : Ow}, OwRep K F u o → (∀ ds, o ≠ .lst ds) → Rep K (upd F p (.frz od u)) (.ref p) (owD o)
  | .lst ds, _, h => absurd rfl (h ds)
  | .dI ks vs, ⟨kvs, e, k, r⟩, _ => by subst e; exact .dI upd_same k (r.ex (Ex.new fp))
  | .dT ks vs, ⟨kvs, e, k, r⟩, _ => by subst e; exact .dT upd_same k (r.ex (Ex.new fp))
  | .dN ks, _, _ => .any _
theorem rep_frzL {K : PySem.W.Frag} {F : Hp} {p : Addr} {u : HO} {ds : List D} (fp : F p = none) (h : OwRep K F u (.lst ds)) : Rep K (upd F p u) (.ref p) (.lst ds) := by
  obtain ⟨xs, e, r⟩ := h
  subst e
  exact .lst upd_same (r.ex (Ex.new fp))
/-- a new list, frozen -/
def eLst (f : Env → R Ow) : Env → R D := fun ρ => (f ρ).bind fun o => match o with
  | .lst ds => .ok (.lst ds)
  | _ => .bad
theorem de_lstO {e : Expr} {f : Env → R Ow} (h : DO X W e f) : DE X W e (eLst f) := by
  refine pe_imp h fun σ H Q ⟨F0, H0, F, ρ, S, q⟩ => ⟨F0, H0, F, ρ, S, ?_⟩
  unfold eLst at q
  cases ef : f ρ with
  | bad => rw [ef] at q; exact q
  | exc c => rw [ef] at q; exact q
  | ok o =>
    rw [ef, R.bind_ok] at q
    cases o with
    | lst ds => exact fun p u F' H' hp g fp hu r => q _ _ H' (grow_frzL g hp fp hu) (rep_frzL fp r)
    | dI _ _ => exact q.elim
    | dT _ _ => exact q.elim
    | dN _ => exact q.elim
/-- a new dict, frozen -/
def eDic (f : Env → R Ow) : Env → R D := fun ρ => (f ρ).bind fun o => match o with
  | .lst ds => .bad
  | o => .ok (owD o)
theorem de_dicO {e : Expr} {f : Env → R Ow} (h : DO X W e f) : DE X W e (eDic f) := by
  refine pe_imp (pe_lk h) fun σ H Q ⟨F0, H0, F, ρ, S, q⟩ => ⟨F0, H0, F, ρ, S, ?_⟩
  unfold eDic at q
  cases ef : f ρ with
  | bad => rw [ef] at q; exact q
  | exc c => rw [ef] at q; exact q
  | ok o =>
    rw [ef, R.bind_ok] at q
    cases o with
    | lst ds => exact q.elim
    | dI ks vs => exact fun p u F' H' hp g fp hu r => ⟨p, u, rfl, hu, r.mut, fun od => q _ _ _ (grow_frz g hp fp) (rep_frz fp r (by intro ds z; cases z))⟩
    | dT ks vs => exact fun p u F' H' hp g fp hu r => ⟨p, u, rfl, hu, r.mut, fun od => q _ _ _ (grow_frz g hp fp) (rep_frz fp r (by intro ds z; cases z))⟩
    | dN ks => exact fun p u F' H' hp g fp hu r => ⟨p, u, rfl, hu, r.mut, fun od => q _ _ _ (grow_frz g hp fp) (rep_frz fp r (by intro ds z; cases z))⟩
/-- an own slot becomes a value, ahead of a block -/
def sFrz (i : Nat) (g : SD) : SD := fun ρ => match ρ[i]? with
  | some (.own o) => g (ρ.set i (.val (owD o)))
  | _ => none
theorem Srep.frz {K : PySem.W.Frag} {F0 H0 F H F' H' : Hp} {σ : L2.St} {ρ : Env} (S : Srep K F0 H0 F H σ ρ) {i : Nat} {o : Ow} {a : Addr} {d : D} (hi : ρ[i]? = some (.own o)) (ha : σ[i]? = some (some (.ref a))) (ef : Ex F F') (sub : Ex F' H') (oth : ∀ b, b ≠ a → F' b = F b ∧ H' b = H b) (r : Rep K F' (.ref a) d) :
    Srep K F0 H0 F' H' σ (ρ.set i (.val d)) := by
  obtain ⟨a', u, e1, e2, e3, e4, e5⟩ := S.own i o hi
  rw [ha] at e1
  cases e1
  have hl : i < ρ.length := (List.getElem?_eq_some_iff.mp hi).1
  refine ⟨⟨S.grow.ef.trans ef, fun b x h => ?_, sub, fun b x h n => ?_⟩, by simp [S.len], fun j d' h => ?_, fun j o' h => ?_, fun j k o' o'' b h1 h2 h3 h4 => ?_, fun P h => by
    obtain ⟨a', u, e1, e2, e3, e4, e5⟩ := S.own i o hi
    rw [ha] at e1
    cases e1
    have t := S.tab P h
    exact t.oth ef (oth P (t.ne e4 e5)).1 (oth P (t.ne e4 e5)).2⟩
  · rw [(oth b (ne_of_none h e3)).2]; exact S.grow.eh.up ef b x h
  · rw [(oth b (ne_of_none h e3)).1]; exact S.grow.new b x h n
  · by_cases q : i = j
    · subst q
      rw [List.getElem?_set_self hl] at h
      cases h
      exact ⟨_, ha, r⟩
    · rw [List.getElem?_set_ne q] at h
      obtain ⟨v, h1, h2⟩ := S.val j d' h
      exact ⟨v, h1, h2.ex ef⟩
  · by_cases q : i = j
    · subst q
      rw [List.getElem?_set_self hl] at h
      cases h
    · rw [List.getElem?_set_ne q] at h
      obtain ⟨b, u', h1, h2, h3, h4, h5⟩ := S.own j o' h
      have nb : b ≠ a := fun z => by
        subst z
        exact q (S.inj i j o o' b hi h ha h1)
      exact ⟨b, u', h1, (oth b nb).1.trans h2, h3, (oth b nb).2.trans h4, h5.ex ef⟩
  · have nv : ∀ (j : Nat) o', (ρ.set i (.val d))[j]? = some (.own o') → ρ[j]? = some (.own o') := fun j o' h => by
      by_cases q : i = j
      · subst q
        rw [List.getElem?_set_self hl] at h
        cases h
      · rw [List.getElem?_set_ne q] at h
        exact h
    exact S.inj j k o' o'' b (nv j o' h1) (nv k o'' h2) h3 h4
theorem dss_frz {st : List Stmt} {g : SD} (i : Nat) (h : DSs X W st g) : DSs X W st (sFrz i g) := by
  have both := pss_lk h
  refine ⟨fun pins s σ H E I hw => ?_⟩
  obtain ⟨F0, H0, F, ρ, S, q⟩ := hw
  unfold sFrz at q
  split at q
  · rename_i o hi
    obtain ⟨a, u, e1, e2, e3, e4, e5⟩ := id (S.own i o hi)
    cases o with
    | lst ds =>
      refine h.run pins s σ H E I ⟨F0, H0, upd F a u, ρ.set i (.val (.lst ds)), ?_, Wants.ex (Ex.new e2) q⟩
      refine S.frz (d := .lst ds) hi e1 (Ex.new e2) (fun b x hb => ?_) (fun b nb => ⟨upd_ne nb, rfl⟩) (rep_frzL e2 e5)
      by_cases e : b = a
      · subst e; rw [upd_same] at hb; rw [e4]; exact hb
      · rw [upd_ne e] at hb; exact S.sub b x hb
    | dI ks vs =>
      refine both.run pins s σ H E I ⟨a, u, e4, e5.mut, fun od => ⟨F0, H0, upd F a (.frz od u), ρ.set i (.val (.dI ks vs)), ?_, Wants.ex (Ex.new e2) q⟩⟩
      exact S.frz (d := .dI ks vs) hi e1 (Ex.new e2) (ex_upd2 S.sub) (fun b nb => ⟨upd_ne nb, upd_ne nb⟩) (rep_frz e2 e5 (by intro ds z; cases z))
    | dT ks vs =>
      refine both.run pins s σ H E I ⟨a, u, e4, e5.mut, fun od => ⟨F0, H0, upd F a (.frz od u), ρ.set i (.val (.dT ks vs)), ?_, Wants.ex (Ex.new e2) q⟩⟩
      exact S.frz (d := .dT ks vs) hi e1 (Ex.new e2) (ex_upd2 S.sub) (fun b nb => ⟨upd_ne nb, upd_ne nb⟩) (rep_frz e2 e5 (by intro ds z; cases z))
    | dN ks =>
      refine both.run pins s σ H E I ⟨a, u, e4, e5.mut, fun od => ⟨F0, H0, upd F a (.frz od u), ρ.set i (.val .any), ?_, Wants.ex (Ex.new e2) q⟩⟩
      exact S.frz (d := .any) hi e1 (Ex.new e2) (ex_upd2 S.sub) (fun b nb => ⟨upd_ne nb, upd_ne nb⟩) (.any _)
  · exact q.elim
/-- name = [..] on one line, frozen at once -/
def sSetL (i : Nat) (f : Env → R Ow) : SD := sSeq (sOwn i f) (sFrz i sNil)

/-! ### own lists: append, extend, an item stored -/
theorem Srep.mutate {K : PySem.W.Frag} {F0 H0 F H : Hp} {σ : L2.St} {ρ : Env} (S : Srep K F0 H0 F H σ ρ) {i : Nat} {o o' : Ow} {a : Addr} {u' : HO} (hi : ρ[i]? = some (.own o)) (ha : σ[i]? = some (some (.ref a))) (r : OwRep K F u' o') :
    Srep K F0 H0 F (upd H a u') σ (ρ.set i (.own o')) := by
  obtain ⟨a', u, e1, e2, e3, e4, e5⟩ := S.own i o hi
  rw [ha] at e1
  cases e1
  have hl : i < ρ.length := (List.getElem?_eq_some_iff.mp hi).1
  refine ⟨⟨S.grow.ef, S.grow.eh.mut e3, fun b x h => ?_, S.grow.new⟩, by simp [S.len], fun j d' h => ?_, fun j o'' h => ?_, fun j k o1 o2 b h1 h2 h3 h4 => ?_, fun P h => by
    have t := S.tab P h
    exact t.oth (Ex.refl F) rfl (upd_ne (t.ne e4 e5))⟩
  · rw [upd_ne (ne_of_none h e2)]; exact S.sub b x h
  · by_cases q : i = j
    · subst q
      rw [List.getElem?_set_self hl] at h
      cases h
    · rw [List.getElem?_set_ne q] at h
      exact S.val j d' h
  · by_cases q : i = j
    · subst q
      rw [List.getElem?_set_self hl] at h
      cases h
      exact ⟨a, u', ha, e2, e3, upd_same, r⟩
    · rw [List.getElem?_set_ne q] at h
      obtain ⟨b, u'', h1, h2, h3, h4, h5⟩ := S.own j o'' h
      have nb : b ≠ a := fun z => by
        subst z
        exact q (S.inj i j o o'' b hi h ha h1)
      exact ⟨b, u'', h1, h2, h3, by rw [upd_ne nb]; exact h4, h5⟩
  · have nv : ∀ (j : Nat) o1, (ρ.set i (.own o'))[j]? = some (.own o1) → ∃ o2, ρ[j]? = some (.own o2) := fun j o1 h => by
      by_cases q : i = j
      · subst q
        exact ⟨o, hi⟩
      · rw [List.getElem?_set_ne q] at h
        exact ⟨o1, h⟩
    obtain ⟨p1, q1⟩ := nv j o1 h1
    obtain ⟨p2, q2⟩ := nv k o2 h2
    exact S.inj j k p1 p2 b q1 q2 h3 h4
/-- xs.append(e), xs in slot i; base: by ps_expr and pe_bm -/
def sApp (i : Nat) (f : Env → R D) : SD := fun ρ => match ρ[i]? with
  | some (.own (.lst ds)) => sE f (fun d ρ => if ds.length < 100000 then some (.nx (ρ.set i (.own (.lst (ds ++ [d]))))) else none) ρ
  | _ => none
theorem szlt {n : Nat} (h : n < 100000) : n < sizeLine := Evl.sz_lt h
theorem ds_app {i : Nat} {st : Stmt} {f : Env → R D} (base : PS X st (tDrop (tBM X.K "list" rAppend (tVar i) (tCons (tD X.K W f) tNil)))) : DS X W st (sApp i f) := by
  refine ps_imp base fun E σ H ⟨F0, H0, F, ρ, S, q⟩ => ?_
  unfold sApp at q
  split at q
  · rename_i ds hi
    obtain ⟨a, u, e1, e2, e3, e4, xs, e5, r⟩ := id (S.own i _ hi)
    subst e5
    refine ⟨.ref a, e1, .inl ⟨rfl, xs, SqL.of e4⟩, ?_⟩
    unfold sE at q
    show tD X.K W f σ H fun x H1 => ∃ l ys y, V.ref a = .ref l ∧ [x] = [y] ∧ H1 l = some (.lst ys) ∧ ys.length < sizeLine ∧ E.nx σ (upd H1 l (.lst (ys ++ [y])))
    cases ef : f ρ with
    | bad => rw [ef] at q; exact q.elim
    | exc c => rw [ef] at q; exact tD_exc S ef fun F' H' g => q σ F' H' g.ef (S.go g)
    | ok d =>
      rw [ef] at q
      have q : Wants X.K W E F0 H0 F (if ds.length < 100000 then some (.nx (ρ.set i (.own (.lst (ds ++ [d]))))) else none) := q
      by_cases hl : ds.length < 100000
      · rw [if_pos hl] at q
        refine tD_ok S ef fun v F1 H1 g1 r1 => ⟨a, xs, v, rfl, rfl, g1.eh.at e4, by rw [r.length]; exact szlt hl, ?_⟩
        exact q σ F1 _ g1.ef ((S.go g1).mutate (o' := .lst (ds ++ [d])) hi e1 ⟨xs ++ [v], rfl, (r.ex g1.ef).append (.cons r1 .nil)⟩)
      · rw [if_neg hl] at q
        exact q.elim
  · exact q.elim
/-- xs.extend(e), e a list -/
def sExt (i : Nat) (f : Env → R D) : SD := fun ρ => match ρ[i]? with
  | some (.own (.lst ds)) => sE f (fun d ρ => match d with
    | .lst es => if ds.length + es.length ≤ 100000 then some (.nx (ρ.set i (.own (.lst (ds ++ es))))) else none
    | _ => none) ρ
  | _ => none
theorem ds_ext {i : Nat} {st : Stmt} {f : Env → R D} (base : PS X st (tDrop (tBM X.K "list" rExtend (tVar i) (tCons (tD X.K W f) tNil)))) : DS X W st (sExt i f) := by
  refine ps_imp base fun E σ H ⟨F0, H0, F, ρ, S, q⟩ => ?_
  unfold sExt at q
  split at q
  · rename_i ds hi
    obtain ⟨a, u, e1, e2, e3, e4, xs, e5, r⟩ := id (S.own i _ hi)
    subst e5
    refine ⟨.ref a, e1, .inl ⟨rfl, xs, SqL.of e4⟩, ?_⟩
    unfold sE at q
    show tD X.K W f σ H fun x H1 => ∃ l b xs zs, V.ref a = .ref l ∧ [x] = [.ref b] ∧ H1 l = some (.lst xs) ∧ H1 b = some (.lst zs) ∧ xs.length + zs.length ≤ sizeLine ∧ E.nx σ (upd H1 l (.lst (xs ++ zs)))
    cases ef : f ρ with
    | bad => rw [ef] at q; exact q.elim
    | exc c => rw [ef] at q; exact tD_exc S ef fun F' H' g => q σ F' H' g.ef (S.go g)
    | ok d =>
      rw [ef] at q
      refine tD_ok S ef fun v F1 H1 g1 r1 => ?_
      cases r1 with
      | @lst b zs es e r2 =>
        have q : Wants X.K W E F0 H0 F (if ds.length + es.length ≤ 100000 then some (.nx (ρ.set i (.own (.lst (ds ++ es))))) else none) := q
        by_cases hl : ds.length + es.length ≤ 100000
        · rw [if_pos hl] at q
          refine ⟨a, b, xs, zs, rfl, rfl, g1.eh.at e4, g1.sub _ _ e, by rw [r.length, r2.length]; exact sz hl, ?_⟩
          exact q σ F1 _ g1.ef ((S.go g1).mutate (o' := .lst (ds ++ es)) hi e1 ⟨xs ++ zs, rfl, (r.ex g1.ef).append r2⟩)
        · rw [if_neg hl] at q
          exact q.elim
      | _ => exact q.elim
  · exact q.elim
/-- reading own slots: x[i] of an own list -/
def eVarO (i : Nat) : Env → R D := fun ρ => match ρ[i]? with
  | some (.val d) => .ok d
  | some (.own (.lst ds)) => .ok (.lst ds)
  | _ => .bad
end

/-! ### a def -/
def startE (N : Nat) (as : List D) : Env := as.map Slot.val ++ List.replicate (N - as.length) .un
def fnD (N : Nat) (g : SD) : List D → R D := fun as => match g (startE N as) with
  | some (.nx _) => .ok .non
  | some (.rt d) => .ok d
  | some (.xc c _) => .exc c
  | _ => .bad
theorem start_rep {K : PySem.W.Frag} {F H : Hp} {N : List Str} {vs : List V} {as : List D} (s : Ex F H) (t : ∀ P ∈ Tabs.all, TabRep F H P) (r : Reps K F vs as) : Srep K F H F H (L2.start N vs) (startE N.length as) := by
  have hl := r.length
  refine ⟨Grow.refl s, by simp [L2.start, startE, hl], fun i d h => ?_, fun i o h => ?_, fun i j o o' a h1 _ _ _ => ?_, t⟩
  · unfold startE at h
    rw [List.getElem?_append] at h
    split at h
    · rename_i hi
      rw [List.getElem?_map] at h
      cases e : as[i]? with
      | none => rw [e] at h; cases h
      | some d' =>
        rw [e] at h
        cases h
        obtain ⟨v, h1, h2⟩ := r.getd e
        refine ⟨v, ?_, h2⟩
        unfold L2.start
        rw [List.getElem?_append_left (by simp; simp at hi; omega), List.getElem?_map, h1]
        rfl
    · rw [List.getElem?_replicate] at h
      split at h <;> cases h
  · unfold startE at h
    rw [List.getElem?_append] at h
    split at h
    · rw [List.getElem?_map] at h
      cases e : as[i]? with
      | none => rw [e] at h; cases h
      | some d' => rw [e] at h; cases h
    · rw [List.getElem?_replicate] at h
      split at h <;> cases h
  · unfold startE at h1
    rw [List.getElem?_append] at h1
    split at h1
    · rw [List.getElem?_map] at h1
      cases e : as[i]? with
      | none => rw [e] at h1; cases h1
      | some d' => rw [e] at h1; cases h1
    · rw [List.getElem?_replicate] at h1
      split at h1 <;> cases h1
/-- where a body stands: what its derivation leans on -/
structure Cok (X : Cx) (W : WX) (N : List Str) (sc : Scope) (k : Nat) : Prop where
  N : X.N = N
  sc : X.env.scope = sc
  calm : X.calm = true
  room : Room k X.A
  takes : Takes X W
  own : PassesOwn (model X.prog X.w) X.A X.env X.xe
  fn : ∀ x, X.fn x = true
  stack : X.stack = X.env :: X.outer
  frame : X.env.frame = some X.env.locals
/-- a def keeps its denotation -/
theorem fd_ok {P : Program} {w : World} {K : PySem.W.Frag} {mg : Str → Option Value} {base : Heap} {x qual : Str} {st : Stmt} {a : Addr} {fd : FuncData} {N ps : List Str} {k : Nat} {g : SD} (F : Fun K x qual st a fd) (S : FnScope N ps (defScope st)) (hm : mg x = some (.ref a)) (hb : Binds K fd ps [])
    (hbody : ∀ (X : Cx) (W : WX), X.prog = P → X.w = w → X.K = K → X.mg = mg → X.base = base → Cok X W N (defScope st) k → DSs X W (defBody st) g) : Fd P w K mg base (k + 1) x ps.length (fnD N.length g) := by
  refine ⟨a, fd, ps, hm, ?_, F.kp, hb⟩
  refine F.okX S (fun vs H Q E ⟨F, ds, _, _, r, hl, _⟩ => r.length.trans hl) fun cdv A outer s H vs Q E hr h => ?_
  obtain ⟨F, ds, sub, tb, r, hl, q⟩ := h
  have C : Cok (cxOf (L2.CX P w) P w K mg base N qual (defScope st) a cdv A outer s H E) (fun cls d _ H => E cls d H) N (defScope st) k := ⟨rfl, rfl, rfl, hr, takes_of rfl rfl rfl rfl, passes_of rfl, fun _ => rfl, rfl, rfl⟩
  refine ⟨_, hbody _ _ rfl rfl rfl rfl rfl C, F, H, F, startE N.length ds, start_rep sub tb r, ?_⟩
  unfold fnD at q
  show Wants K _ _ F H F (g (startE N.length ds))
  cases eg : g (startE N.length ds) with
  | none => rw [eg] at q; exact q.elim
  | some o =>
    rw [eg] at q
    cases o with
    | nx ρ => exact fun σ' F' H' e S' => q .non F' H' S'.grow .non
    | rt d => exact fun v F' H' g r => q v F' H' g r
    | xc c ρ => exact fun σ' F' H' e S' => q F' H' S'.grow
    | br ρ => exact q.elim
    | ct ρ => exact q.elim
end DL

set_option Elab.async false
set_option linter.all false
set_option maxRecDepth 100000
set_option maxHeartbeats 1000000
namespace DL
variable [Tabs]
open PySem L2
open Evl (Ex)

/-! ### built-ins by values -/
section
variable {X : Cx} {W : WX} {pos : Pos}
theorem de_callB {x : Str} {p : Pos} {e : Expr} {es : List Expr} {id : String} {r : List V → Hp → VK → Prop} {g : List D → Option D} {as : Env → R (List D)} (hc : CallR X (.builtin id) r) (hs : CallS X.K r g) (hg : Gl X x) (hm : X.mg x = none) (hv : bootBuiltins x = some (.builtin id)) (ha : DA X W (e :: es) as) (hn : x ≠ "__name__" := by decide) (hdb : (x == ("__debug__" : Str)) = false := by decide)
    (he : starEach (e :: es) X.env = (false, eval e X.env) :: starEach es X.env := by rfl) (hpl : (backTo pos (starEach es X.env)).any (·.1) = false := by rfl) : DE X W (.Call (.Name x p) (e :: es) [] pos) (eArgs g as) :=
  pe_imp (pe_callB hc hg hm hv ha hn hdb he hpl) fun σ H Q h => eArgs_of hs h
theorem de_callTy {x : Str} {p : Pos} {e : Expr} {es : List Expr} {T : String} {r : List V → Hp → VK → Prop} {g : List D → Option D} {as : Env → R (List D)} (hc : CallR X (.type T) r) (hs : CallS X.K r g) (hg : Gl X x) (hm : X.mg x = none) (hv : bootBuiltins x = some (.type T)) (ha : DA X W (e :: es) as) (hn : x ≠ "__name__" := by decide) (hdb : (x == ("__debug__" : Str)) = false := by decide)
    (he : starEach (e :: es) X.env = (false, eval e X.env) :: starEach es X.env := by rfl) (hpl : (backTo pos (starEach es X.env)).any (·.1) = false := by rfl) : DE X W (.Call (.Name x p) (e :: es) [] pos) (eArgs g as) :=
  pe_imp (pe_callTy hc hg hm hv ha hn hdb he hpl) fun σ H Q h => eArgs_of hs h
end
section
variable {K : PySem.W.Frag}
/-- one argument -/
theorem Reps.one {F : Hp} {xs : List V} {d : D} (r : Reps K F xs [d]) : ∃ v, xs = [v] ∧ Rep K F v d := by
  match xs, r with
  | [v], .cons r .nil => exact ⟨v, rfl, r⟩
theorem Reps.two {F : Hp} {xs : List V} {d e : D} (r : Reps K F xs [d, e]) : ∃ v u, xs = [v, u] ∧ Rep K F v d ∧ Rep K F u e := by
  match xs, r with
  | [v, u], .cons r (.cons q .nil) => exact ⟨v, u, rfl, r, q⟩
/-- len -/
def gLen : List D → Option D
  | [.tup l] => some (.int (l.length : Nat))
  | [.lst l] => some (.int (l.length : Nat))
  | [.scr l] => some (.int (l.length : Nat))
  | [.str x] => if x.length ≤ 100000 then some (.int (x.length : Nat)) else none
  | _ => none
theorem cs_len : CallS K (fun xs H Q => (∃ p ys, xs = [.ref p] ∧ (SqL K H p ys ∨ SqT K H p ys) ∧ Q (.int ys.length) H) ∨ ∃ z, xs = [.str z] ∧ z.length ≤ sizeLine ∧ Q (.int z.length) H) gLen := fun F H xs as d Q s r e q => by
  unfold gLen at e
  split at e
  · cases e
    obtain ⟨v, rfl, rv⟩ := r.one
    cases rv with
    | tup e1 r1 => exact .inl ⟨_, _, rfl, .inr (tT s e1), by rw [r1.length]; exact q _ F H (Grow.refl s) (.int _)⟩
  · cases e
    obtain ⟨v, rfl, rv⟩ := r.one
    cases rv with
    | lst e1 r1 => exact .inl ⟨_, _, rfl, .inl (SqL.of (s _ _ e1)), by rw [r1.length]; exact q _ F H (Grow.refl s) (.int _)⟩
  · cases e
    obtain ⟨v, rfl, rv⟩ := r.one
    cases rv with
    | scr e1 => exact .inl ⟨_, _, rfl, .inl (sqL_ex s e1), by rw [List.length_map]; exact q _ F H (Grow.refl s) (.int _)⟩
  · split at e
    · rename_i h
      cases e
      obtain ⟨v, rfl, rv⟩ := r.one
      cases rv
      exact .inr ⟨_, rfl, sz h, q _ F H (Grow.refl s) (.int _)⟩
    · cases e
  · cases e
/-- lists of one kind -/
def asInts : List D → Option (List Int)
  | [] => some []
  | .int i :: r => (asInts r).map (i :: ·)
  | _ => none
def asBls : List D → Option (List Bool)
  | [] => some []
  | .bl i :: r => (asBls r).map (i :: ·)
  | _ => none
theorem asInts_eq : ∀ {l : List D} {ns : List Int}, asInts l = some ns → l = ns.map D.int
  | [], _, h => by cases h; rfl
  | .int i :: r, ns, h => by
    unfold asInts at h
    cases e : asInts r with
    | none => rw [e] at h; cases h
    | some ms => rw [e] at h; cases h; rw [asInts_eq e]; rfl
  | .non :: _, _, h => by cases h
  | .bl _ :: _, _, h => by cases h
  | .str _ :: _, _, h => by cases h
  | .ty _ :: _, _, h => by cases h
  | .ref _ :: _, _, h => by cases h
  | .tup _ :: _, _, h => by cases h
  | .lst _ :: _, _, h => by cases h
  | .scr _ :: _, _, h => by cases h
  | .dI _ _ :: _, _, h => by cases h
  | .dT _ _ :: _, _, h => by cases h
theorem asBls_eq : ∀ {l : List D} {ns : List Bool}, asBls l = some ns → l = ns.map D.bl
  | [], _, h => by cases h; rfl
  | .bl i :: r, ns, h => by
    unfold asBls at h
    cases e : asBls r with
    | none => rw [e] at h; cases h
    | some ms => rw [e] at h; cases h; rw [asBls_eq e]; rfl
  | .non :: _, _, h => by cases h
  | .int _ :: _, _, h => by cases h
  | .str _ :: _, _, h => by cases h
  | .ty _ :: _, _, h => by cases h
  | .ref _ :: _, _, h => by cases h
  | .tup _ :: _, _, h => by cases h
  | .lst _ :: _, _, h => by cases h
  | .scr _ :: _, _, h => by cases h
  | .dI _ _ :: _, _, h => by cases h
  | .dT _ _ :: _, _, h => by cases h
@[simp] theorem asInts_map (ns : List Int) : asInts (ns.map D.int) = some ns := by
  induction ns with
  | nil => rfl
  | cons n r ih => simp [asInts, ih]
@[simp] theorem asBls_map (ns : List Bool) : asBls (ns.map D.bl) = some ns := by
  induction ns with
  | nil => rfl
  | cons n r ih => simp [asBls, ih]
/-- all, any, sum, min, max of a list -/
def gAll : List D → Option D
  | [.lst l] => (asBls l).map fun bs => .bl (bs.all id)
  | _ => none
def gAny : List D → Option D
  | [.lst l] => (asBls l).map fun bs => .bl (bs.any id)
  | _ => none
def gSum : List D → Option D
  | [.lst l] => (asInts l).map fun ns => .int ns.sum
  | _ => none
theorem cs_all : CallS K (rAll K) gAll := fun F H xs as d Q s r e q => by
  unfold gAll at e
  split at e
  · rename_i l
    cases ei : asBls l with
    | none => rw [ei] at e; cases e
    | some bs =>
      rw [ei] at e
      cases e
      cases asBls_eq ei
      obtain ⟨v, rfl, rv⟩ := r.one
      cases rv with
      | lst e1 r1 => exact ⟨_, bs, rfl, SqL.of (by rw [← r1.of_bls]; exact s _ _ e1), q _ F H (Grow.refl s) (.bl _)⟩
  · cases e
theorem cs_any : CallS K (rAny K) gAny := fun F H xs as d Q s r e q => by
  unfold gAny at e
  split at e
  · rename_i l
    cases ei : asBls l with
    | none => rw [ei] at e; cases e
    | some bs =>
      rw [ei] at e
      cases e
      cases asBls_eq ei
      obtain ⟨v, rfl, rv⟩ := r.one
      cases rv with
      | lst e1 r1 => exact ⟨_, bs, rfl, SqL.of (by rw [← r1.of_bls]; exact s _ _ e1), q _ F H (Grow.refl s) (.bl _)⟩
  · cases e
theorem cs_sum : CallS K (rSum K) gSum := fun F H xs as d Q s r e q => by
  unfold gSum at e
  split at e
  · rename_i l
    cases ei : asInts l with
    | none => rw [ei] at e; cases e
    | some bs =>
      rw [ei] at e
      cases e
      cases asInts_eq ei
      obtain ⟨v, rfl, rv⟩ := r.one
      cases rv with
      | lst e1 r1 => exact ⟨_, bs, rfl, SqL.of (by rw [← r1.of_ints]; exact s _ _ e1), q _ F H (Grow.refl s) (.int _)⟩
  · cases e
def minI : List Int → Option Int
  | [] => none
  | n :: r => match minI r with
    | none => some n
    | some m => some (if n ≤ m then n else m)
def maxI : List Int → Option Int
  | [] => none
  | n :: r => match maxI r with
    | none => some n
    | some m => some (if m ≤ n then n else m)
theorem minI_none : ∀ {l : List Int}, minI l = none → l = []
  | [], _ => rfl
  | n :: r, h => by
    unfold minI at h
    split at h <;> cases h
theorem maxI_none : ∀ {l : List Int}, maxI l = none → l = []
  | [], _ => rfl
  | n :: r, h => by
    unfold maxI at h
    split at h <;> cases h
theorem minI_spec : ∀ {l : List Int} {m : Int}, minI l = some m → m ∈ l ∧ ∀ y ∈ l, m ≤ y
  | [], _, h => by cases h
  | n :: r, m, h => by
    unfold minI at h
    split at h
    · rename_i e
      cases h
      cases minI_none e
      exact ⟨by simp, by simp⟩
    · rename_i k e
      obtain ⟨h1, h2⟩ := minI_spec e
      cases h
      split
      · rename_i c
        refine ⟨by simp, fun y hy => ?_⟩
        rcases List.mem_cons.mp hy with rfl | hy
        · exact Int.le_refl _
        · exact Int.le_trans c (h2 y hy)
      · rename_i c
        refine ⟨List.mem_cons_of_mem _ h1, fun y hy => ?_⟩
        rcases List.mem_cons.mp hy with rfl | hy
        · omega
        · exact h2 y hy
theorem maxI_spec : ∀ {l : List Int} {m : Int}, maxI l = some m → m ∈ l ∧ ∀ y ∈ l, y ≤ m
  | [], _, h => by cases h
  | n :: r, m, h => by
    unfold maxI at h
    split at h
    · rename_i e
      cases h
      cases maxI_none e
      exact ⟨by simp, by simp⟩
    · rename_i k e
      obtain ⟨h1, h2⟩ := maxI_spec e
      cases h
      split
      · rename_i c
        refine ⟨by simp, fun y hy => ?_⟩
        rcases List.mem_cons.mp hy with rfl | hy
        · exact Int.le_refl _
        · exact Int.le_trans (h2 y hy) c
      · rename_i c
        refine ⟨List.mem_cons_of_mem _ h1, fun y hy => ?_⟩
        rcases List.mem_cons.mp hy with rfl | hy
        · omega
        · exact h2 y hy
def gMin : List D → Option D
  | [.lst l] => (asInts l).bind fun ns => (minI ns).map D.int
  | [.int i, .int j] => some (.int (if j < i then j else i))
  | _ => none
def gMax : List D → Option D
  | [.lst l] => (asInts l).bind fun ns => (maxI ns).map D.int
  | [.int i, .int j] => some (.int (if j > i then j else i))
  | _ => none
theorem cs_min : CallS K (fun xs H Q => rMin K xs H Q ∨ ∃ i j, xs = [.int i, .int j] ∧ Q (.int (if j < i then j else i)) H) gMin := fun F H xs as d Q s r e q => by
  unfold gMin at e
  split at e
  · rename_i l
    cases ei : asInts l with
    | none => rw [ei] at e; cases e
    | some ns =>
      rw [ei, Option.bind_some] at e
      cases em : minI ns with
      | none => rw [em] at e; cases e
      | some m =>
        rw [em] at e
        cases e
        cases asInts_eq ei
        obtain ⟨h1, h2⟩ := minI_spec em
        obtain ⟨v, rfl, rv⟩ := r.one
        cases rv with
        | lst e1 r1 =>
          refine .inl ⟨_, ns, rfl, SqL.of (by rw [← r1.of_ints]; exact s _ _ e1), List.length_pos_of_mem h1, fun m' h1' h2' => ?_⟩
          have : m' = m := Int.le_antisymm (h2' m h1) (h2 m' h1')
          subst this
          exact q _ F H (Grow.refl s) (.int _)
  · cases e
    obtain ⟨v, u, rfl, r1, r2⟩ := r.two
    cases r1
    cases r2
    exact .inr ⟨_, _, rfl, q _ F H (Grow.refl s) (.int _)⟩
  · cases e
theorem cs_max : CallS K (fun xs H Q => rMax K xs H Q ∨ ∃ i j, xs = [.int i, .int j] ∧ Q (.int (if j > i then j else i)) H) gMax := fun F H xs as d Q s r e q => by
  unfold gMax at e
  split at e
  · rename_i l
    cases ei : asInts l with
    | none => rw [ei] at e; cases e
    | some ns =>
      rw [ei, Option.bind_some] at e
      cases em : maxI ns with
      | none => rw [em] at e; cases e
      | some m =>
        rw [em] at e
        cases e
        cases asInts_eq ei
        obtain ⟨h1, h2⟩ := maxI_spec em
        obtain ⟨v, rfl, rv⟩ := r.one
        cases rv with
        | lst e1 r1 =>
          refine .inl ⟨_, ns, rfl, SqL.of (by rw [← r1.of_ints]; exact s _ _ e1), List.length_pos_of_mem h1, fun m' h1' h2' => ?_⟩
          have : m' = m := Int.le_antisymm (h2 m' h1') (h2' m h1)
          subst this
          exact q _ F H (Grow.refl s) (.int _)
  · cases e
    obtain ⟨v, u, rfl, r1, r2⟩ := r.two
    cases r1
    cases r2
    exact .inr ⟨_, _, rfl, q _ F H (Grow.refl s) (.int _)⟩
  · cases e
/-- isinstance(x, T), T a built-in class -/
def tyName : D → Option String
  | .non => some "NoneType"
  | .bl _ => some "bool"
  | .int _ => some "int"
  | .str _ => some "str"
  | .tup _ => some "tuple"
  | .lst _ => some "list"
  | _ => none
def gIsi : List D → Option D
  | [d, .ty T] => (tyName d).bind fun a => (kitB a T).map D.bl
  | _ => none
theorem tyName_ty {F H : Hp} {v : V} {d : D} {a : String} (s : Ex F H) (r : Rep K F v d) (h : tyName d = some a) : TyX K H v (.type a) := by
  cases r with
  | non => cases h; exact .base .non
  | bl b => cases h; exact .base (.bl b)
  | int i => cases h; exact .base (.int i)
  | str x => cases h; exact .base (.str x)
  | lst e r => cases h; exact .base (.lst (s _ _ e))
  | tup e r =>
    cases h
    exact .base (.tup (s _ _ e))
  | _ => cases h
theorem cs_isi : CallS K (rIsi K) gIsi := fun F H xs as d Q s r e q => by
  unfold gIsi at e
  split at e
  · rename_i d' T
    cases et : tyName d' with
    | none => rw [et] at e; cases e
    | some a =>
      rw [et, Option.bind_some] at e
      cases ek : kitB a T with
      | none => rw [ek] at e; cases e
      | some b =>
        rw [ek] at e
        cases e
        obtain ⟨v, u, rfl, r1, r2⟩ := r.two
        cases r2
        exact ⟨v, .ty T, .type a, .type T, b, rfl, .ty T, tyName_ty s r1 et, kit_ty ek, q _ F H (Grow.refl s) (.bl _)⟩
  · cases e
/-- tuple(x) -/
def gTuple : List D → Option D
  | [.lst l] => some (.tup l)
  | [.tup l] => some (.tup l)
  | _ => none
theorem cs_tuple : CallS K (fun xs H Q => ∃ p ys, xs = [.ref p] ∧ ((SqL K H p ys ∧ ∀ l, H l = none → Q (.ref l) (upd H l (.tup ys))) ∨ (SqT K H p ys ∧ Q (.ref p) H))) gTuple := fun F H xs as d Q s r e q => by
  unfold gTuple at e
  split at e
  · cases e
    obtain ⟨v, rfl, rv⟩ := r.one
    cases rv with
    | lst e1 r1 => exact ⟨_, _, rfl, .inl ⟨SqL.of (s _ _ e1), fun p hp => q _ _ _ (Grow.add s hp) (.tup upd_same (r1.ex (Ex.new (fresh_sub s hp))))⟩⟩
  · cases e
    obtain ⟨v, rfl, rv⟩ := r.one
    cases rv with
    | tup e1 r1 => exact ⟨_, _, rfl, .inr ⟨tT s e1, q _ F H (Grow.refl s) (.tup e1 r1)⟩⟩
  · cases e
end

/-! ### calls that make a new list -/
def CallO (K : PySem.W.Frag) (r : List V → Hp → VK → Prop) (g : List D → Option (List D)) : Prop :=
  ∀ F H xs as l Q, Ex F H → Reps K F xs as → g as = some l → (∀ p ys F' H', H p = none → Grow F H F' H' → F' p = none → H' p = some (.lst ys) → Reps K F' ys l → Q (.ref p) H') → r xs H Q
def oCall (g : List D → Option (List D)) (f : Env → R (List D)) : Env → R Ow := fun ρ => (f ρ).bind fun as => (R.lift (g as)).bind fun l => .ok (.lst l)
section
variable {X : Cx} {W : WX} {pos : Pos}
theorem oCall_of {r : List V → Hp → VK → Prop} {g : List D → Option (List D)} {f : Env → R (List D)} {σ : L2.St} {H : Hp} {Q : VK} (hr : CallO X.K r g) (h : tDo X.K W (oCall g f) σ H Q) : tDs X.K W f σ H fun vs H1 => r vs H1 Q := by
  obtain ⟨F0, H0, F, ρ, S, q⟩ := h
  unfold oCall at q
  cases ef : f ρ with
  | bad => rw [ef] at q; exact q.elim
  | exc c => rw [ef] at q; exact tDs_exc S ef q
  | ok as =>
    rw [ef, R.bind_ok] at q
    refine tDs_ok S ef fun vs F1 H1 g1 r1 => ?_
    cases eg : g as with
    | none => rw [eg] at q; exact q.elim
    | some l =>
      rw [eg, R.lift_some, R.bind_ok] at q
      exact hr F1 H1 vs as l Q g1.sub r1 eg fun p ys F2 H2 hp g2 fp hu r2 => q p _ F2 H2 (g1.eh.fresh hp) (g1.trans g2) fp hu ⟨ys, rfl, r2⟩
theorem do_callB {x : Str} {p : Pos} {e : Expr} {es : List Expr} {id : String} {r : List V → Hp → VK → Prop} {g : List D → Option (List D)} {as : Env → R (List D)} (hc : CallR X (.builtin id) r) (hs : CallO X.K r g) (hg : Gl X x) (hm : X.mg x = none) (hv : bootBuiltins x = some (.builtin id)) (ha : DA X W (e :: es) as) (hn : x ≠ "__name__" := by decide) (hdb : (x == ("__debug__" : Str)) = false := by decide)
    (he : starEach (e :: es) X.env = (false, eval e X.env) :: starEach es X.env := by rfl) (hpl : (backTo pos (starEach es X.env)).any (·.1) = false := by rfl) : DO X W (.Call (.Name x p) (e :: es) [] pos) (oCall g as) :=
  pe_imp (pe_callB hc hg hm hv ha hn hdb he hpl) fun σ H Q h => oCall_of hs h
theorem do_callTy {x : Str} {p : Pos} {e : Expr} {es : List Expr} {T : String} {r : List V → Hp → VK → Prop} {g : List D → Option (List D)} {as : Env → R (List D)} (hc : CallR X (.type T) r) (hs : CallO X.K r g) (hg : Gl X x) (hm : X.mg x = none) (hv : bootBuiltins x = some (.type T)) (ha : DA X W (e :: es) as) (hn : x ≠ "__name__" := by decide) (hdb : (x == ("__debug__" : Str)) = false := by decide)
    (he : starEach (e :: es) X.env = (false, eval e X.env) :: starEach es X.env := by rfl) (hpl : (backTo pos (starEach es X.env)).any (·.1) = false := by rfl) : DO X W (.Call (.Name x p) (e :: es) [] pos) (oCall g as) :=
  pe_imp (pe_callTy hc hg hm hv ha hn hdb he hpl) fun σ H Q h => oCall_of hs h
end
section
variable {K : PySem.W.Frag}
/-- list(x) -/
def gList : List D → Option (List D)
  | [.lst l] => some l
  | [.tup l] => some l
  | _ => none
theorem co_list : CallO K (fun xs H Q => ∃ p ys, xs = [.ref p] ∧ (SqL K H p ys ∨ SqT K H p ys) ∧ ∀ l, H l = none → Q (.ref l) (upd H l (.lst ys))) gList := fun F H xs as d Q s r e q => by
  unfold gList at e
  split at e
  · cases e
    obtain ⟨v, rfl, rv⟩ := r.one
    cases rv with
    | lst e1 r1 => exact ⟨_, _, rfl, .inl (SqL.of (s _ _ e1)), fun p hp => q p _ F _ hp (Grow.addH s hp) (fresh_sub s hp) upd_same r1⟩
  · cases e
    obtain ⟨v, rfl, rv⟩ := r.one
    cases rv with
    | tup e1 r1 => exact ⟨_, _, rfl, .inr (tT s e1), fun p hp => q p _ F _ hp (Grow.addH s hp) (fresh_sub s hp) upd_same r1⟩
  · cases e
/-- sorted ints -/
def insI (x : Int) : List Int → List Int
  | [] => [x]
  | y :: r => if x ≤ y then x :: y :: r else y :: insI x r
def srtI : List Int → List Int
  | [] => []
  | x :: r => insI x (srtI r)
theorem insI_perm (x : Int) : ∀ l : List Int, (insI x l).Perm (x :: l)
  | [] => List.Perm.refl _
  | y :: r => by
    unfold insI
    split
    · exact List.Perm.refl _
    · exact ((insI_perm x r).cons y).trans (List.Perm.swap x y r)
theorem srtI_perm : ∀ l : List Int, (srtI l).Perm l
  | [] => List.Perm.refl _
  | x :: r => (insI_perm x (srtI r)).trans ((srtI_perm r).cons x)
theorem insI_srt (x : Int) : ∀ l : List Int, l.Pairwise (· ≤ ·) → (insI x l).Pairwise (· ≤ ·)
  | [], _ => by simp [insI]
  | y :: r, h => by
    rw [List.pairwise_cons] at h
    unfold insI
    split
    · rename_i c
      rw [List.pairwise_cons, List.pairwise_cons]
      refine ⟨fun z hz => ?_, h⟩
      rcases List.mem_cons.mp hz with rfl | hz
      · exact c
      · exact Int.le_trans c (h.1 z hz)
    · rename_i c
      rw [List.pairwise_cons]
      refine ⟨fun z hz => ?_, insI_srt x r h.2⟩
      rcases List.mem_cons.mp ((insI_perm x r).mem_iff.mp hz) with rfl | hz
      · omega
      · exact h.1 z hz
theorem srtI_srt : ∀ l : List Int, (srtI l).Pairwise (· ≤ ·)
  | [] => List.Pairwise.nil
  | x :: r => insI_srt x _ (srtI_srt r)
theorem srt_uniq : ∀ {l m : List Int}, l.Pairwise (· ≤ ·) → m.Pairwise (· ≤ ·) → l.Perm m → l = m := fun h1 h2 p =>
  p.eq_of_pairwise (le := (· ≤ ·)) (fun a b _ _ hab hba => Int.le_antisymm hab hba) h1 h2
def gSortedI : List D → Option (List D)
  | [.lst l] => (asInts l).map fun ns => (srtI ns).map D.int
  | _ => none
theorem co_sortedI : CallO K (rSortedI K) gSortedI := fun F H xs as d Q s r e q => by
  unfold gSortedI at e
  split at e
  · rename_i l
    cases ei : asInts l with
    | none => rw [ei] at e; cases e
    | some ns =>
      rw [ei] at e
      cases e
      cases asInts_eq ei
      obtain ⟨v, rfl, rv⟩ := r.one
      cases rv with
      | lst e1 r1 =>
        refine ⟨_, ns, rfl, SqL.of (by rw [← r1.of_ints]; exact s _ _ e1), fun ns' p pm pw hp => ?_⟩
        have : ns' = srtI ns := srt_uniq pw (srtI_srt ns) (pm.trans (srtI_perm ns).symm)
        subst this
        exact q p _ F _ hp (Grow.addH s hp) (fresh_sub s hp) upd_same (Reps.ints _)
  · cases e
/-- sorted(d), a dict by ints -/
def gSortedD : List D → Option (List D)
  | [.dI ks _] => if ks.length < 64 then some ((srtI ks).map D.int) else none
  | _ => none
theorem co_sortedD : CallO K (fun xs H Q => ∃ (a : Addr) (kvs : List (Key × V)) (ks : List Int), xs = [.ref a] ∧ Rd H a (.dK kvs) ∧ kvs.map (·.1) = ks.map Sum.inl ∧ ks.length < 64 ∧
    ∀ (ys : List Int) (p : Addr), ys.Perm ks → ys.Pairwise (· ≤ ·) → H p = none → Q (.ref p) (upd H p (.lst (ys.map V.int)))) gSortedD := fun F H xs as d Q s r e q => by
  unfold gSortedD at e
  split at e
  · split at e
    · rename_i ks vs hl
      cases e
      obtain ⟨v, rfl, rv⟩ := r.one
      cases rv with
      | @dI a o kvs ks ds e1 k1 r1 =>
        refine ⟨a, kvs, ks, rfl, .inr ⟨o, s _ _ e1⟩, k1, hl, fun ns' p pm pw hp => ?_⟩
        have : ns' = srtI ks := srt_uniq pw (srtI_srt ks) (pm.trans (srtI_perm ks).symm)
        subst this
        exact q p _ F _ hp (Grow.addH s hp) (fresh_sub s hp) upd_same (Reps.ints _)
    · cases e
  · cases e
end
section
variable {X : Cx} {W : WX} {pos p : Pos}
/-- list(range(..)), tuple(range(..)) -/
def oRange (f : Env → R (List D)) : Env → R Ow := fun ρ => (f ρ).bind fun as => match as with
  | [.int j] => if decide (0 ≤ j) && decide (j ≤ 100000) then .ok (.lst (rangeD 0 j)) else .bad
  | [.int i, .int j] => if decide (0 ≤ i) && decide (i ≤ 100000) && decide (0 ≤ j) && decide (j ≤ 100000) then .ok (.lst (rangeD i j)) else .bad
  | _ => .bad
theorem rgV_reps {K : PySem.W.Frag} {F : Hp} (a b : Int) : Reps K F (rgV a b) (rangeD a b) := by
  unfold rgV rangeD
  induction List.range (b - a).toNat with
  | nil => exact .nil
  | cons x r ih => exact .cons (.int _) ih
theorem do_range1 {a : Expr} {f : Env → R D} {p2 pos2 : Pos} (hc : X.calm = true) (hg : Gl X "list") (hm : X.mg "list" = none) (hg2 : Gl X "range") (hm2 : X.mg "range" = none) (ha : DE X W a f)
    (na : starEach [a] X.env = (false, eval a X.env) :: starEach [] X.env := by rfl) (nb : starEach [.Call (.Name "range" p2) [a] [] pos2] X.env = (false, eval (.Call (.Name "range" p2) [a] [] pos2) X.env) :: starEach [] X.env := by rfl) : DO X W (.Call (.Name "list" p) [.Call (.Name "range" p2) [a] [] pos2] [] pos) (oRange (aCons f aNil)) := by
  refine pe_imp (pe_listRg hc hg hm (prg_1 hg2 hm2 ha na) nb) fun σ H Q ⟨F0, H0, F, ρ, S, q⟩ => ?_
  unfold oRange aCons at q
  show tD X.K W f σ H fun x H1 => ∃ n, x = .int n ∧ (RgOk 0 n ∧ ∀ q, H1 q = none → Q (.ref q) (upd H1 q (.lst (rgV 0 n))))
  cases ef : f ρ with
  | bad => rw [ef] at q; exact q.elim
  | exc c => rw [ef] at q; exact tD_exc S ef q
  | ok d =>
    rw [ef, R.bind_ok] at q
    refine tD_ok S ef fun v F1 H1 g1 r1 => ?_
    cases r1 with
    | int j =>
      have q : (match (if decide (0 ≤ j) && decide (j ≤ 100000) then R.ok (Ow.lst (rangeD 0 j)) else .bad) with
        | .ok o => ∀ p u F' H', H p = none → Grow F H F' H' → F' p = none → H' p = some u → OwRep X.K F' u o → Q (.ref p) H'
        | .exc c => ∀ F' H', Grow F H F' H' → W (.ref c) none σ H'
        | .bad => False) := q
      by_cases h : (decide (0 ≤ j) && decide (j ≤ 100000)) = true
      · rw [if_pos h] at q
        simp only [Bool.and_eq_true, decide_eq_true_eq] at h
        exact ⟨j, rfl, RgOk.of_le (by omega) (by omega) (by omega) (by omega), fun p hp => q p _ F1 _ (g1.eh.fresh hp) (g1.trans (Grow.addH g1.sub hp)) (fresh_sub g1.sub hp) upd_same ⟨_, rfl, rgV_reps 0 j⟩⟩
      · rw [if_neg h] at q
        exact q.elim
    | _ => exact q.elim
/-- slices of a tuple or a list -/
def cutD (l : List D) (lo hi : Option Int) : List D := (l.drop (HT.sIx l.length 0 lo)).take (HT.sIx l.length l.length hi - HT.sIx l.length 0 lo)
theorem cut_reps {K : PySem.W.Frag} {F : Hp} {xs : List V} {ds : List D} {lo hi : Option Int} (r : Reps K F xs ds) : Reps K F (cutV xs lo hi) (cutD ds lo hi) := by
  unfold cutV cutD
  rw [r.length]
  exact (r.drop _).take _
def oPart (f : Option (Env → R D)) : Env → R (Option Int) := fun ρ => match f with
  | none => .ok none
  | some f => (f ρ).bind fun d => match d with
    | .int i => .ok (some i)
    | _ => .bad
def tPD (K : PySem.W.Frag) (W : WX) (f : Env → R (Option Int)) : TO := fun σ H Q => ∃ F0 H0 F ρ, Srep K F0 H0 F H σ ρ ∧ match f ρ with
  | .ok o => ∀ F' H', Grow F H F' H' → Q o H'
  | .exc c => ∀ F' H', Grow F H F' H' → W (.ref c) none σ H'
  | .bad => False
theorem po_imp {e : Option Expr} {t t' : TO} (h : PO X e t) (i : ∀ σ H Q, t' σ H Q → t σ H Q) : PO X e t' := ⟨fun pins s σ H Q I hw => h.run pins s σ H Q I (i σ H Q hw)⟩
theorem dpo_none : PO X none (tPD X.K W (oPart none)) := po_imp po_none fun σ H Q ⟨F0, H0, F, ρ, S, q⟩ => q F H (Grow.refl S.sub)
theorem dpo_some {e : Expr} {f : Env → R D} (h : DE X W e f) : PO X (some e) (tPD X.K W (oPart (some f))) := po_imp (po_some h) fun σ H Q ⟨F0, H0, F, ρ, S, q⟩ => by
  show tD X.K W f σ H fun x H1 => ∃ i, x = .int i ∧ Q (some i) H1
  unfold oPart at q
  cases ef : f ρ with
  | bad => simp only [ef, R.bind_bad] at q
  | exc c => simp only [ef, R.bind_exc] at q; exact tD_exc S ef q
  | ok d =>
    simp only [ef, R.bind_ok] at q
    refine tD_ok S ef fun v F1 H1 g1 r1 => ?_
    cases r1 with
    | int i => exact ⟨i, rfl, q F1 H1 g1⟩
    | _ => exact q.elim
def eSl (f : Env → R D) (lo hi : Env → R (Option Int)) : Env → R D := fun ρ => (f ρ).bind fun d => (lo ρ).bind fun l => (hi ρ).bind fun h => match d with
  | .tup xs => .ok (.tup (cutD xs l h))
  | .lst xs => .ok (.lst (cutD xs l h))
  | _ => .bad
theorem cutD_all {l : List D} {lo hi : Option Int} (h : HT.sIx l.length 0 lo = 0 ∧ HT.sIx l.length l.length hi = l.length) : cutD l lo hi = l := by
  unfold cutD
  rw [h.1, h.2]
  simp
theorem de_slice {e : Expr} {lo hi : Option Expr} {p2 : Pos} {f : Env → R D} {fl fh : Env → R (Option Int)} (h : DE X W e f) (hl : PO X lo (tPD X.K W fl)) (hh : PO X hi (tPD X.K W fh)) : DE X W (.Subscript e (.Slice lo hi none p2) pos) (eSl f fl fh) := by
  refine pe_imp (pe_slice (sl_tupA.or sl_list) h hl hh) fun σ H Q ⟨F0, H0, F, ρ, S, q⟩ => ?_
  unfold eSl at q
  show tD X.K W f σ H fun x H1 => tPD X.K W fl σ H1 fun l H2 => tPD X.K W fh σ H2 fun u H3 => rSlA X.K x l u H3 Q ∨ rSlL X.K x l u H3 Q
  cases ef : f ρ with
  | bad => rw [ef] at q; exact q.elim
  | exc c => rw [ef] at q; exact tD_exc S ef q
  | ok d =>
    rw [ef, R.bind_ok] at q
    refine tD_ok S ef fun v F1 H1 g1 r1 => ⟨F0, H0, F1, ρ, S.go g1, ?_⟩
    cases el : fl ρ with
    | bad => rw [el] at q; exact q.elim
    | exc c => rw [el] at q; exact fun F2 H2 g2 => q F2 H2 (g1.trans g2)
    | ok l =>
      rw [el, R.bind_ok] at q
      refine fun F2 H2 g2 => ⟨F0, H0, F2, ρ, (S.go g1).go g2, ?_⟩
      cases eh : fh ρ with
      | bad => rw [eh] at q; exact q.elim
      | exc c => rw [eh] at q; exact fun F3 H3 g3 => q F3 H3 ((g1.trans g2).trans g3)
      | ok u =>
        rw [eh, R.bind_ok] at q
        refine fun F3 H3 g3 => ?_
        have r3 := r1.ex (g2.ef.trans g3.ef)
        have G := (g1.trans g2).trans g3
        cases r3 with
        | tup e1 r2 =>
          refine .inl ⟨_, _, rfl, tT g3.sub e1, fun hw => ?_, fun _ p hp => ?_⟩
          · rw [r2.length] at hw
            have q := q _ F3 H3 G (.tup e1 (by rw [cutD_all hw]; exact r2))
            exact q
          · exact q _ _ _ (G.trans (Grow.add g3.sub hp)) (.tup upd_same ((cut_reps r2).ex (Ex.new (fresh_sub g3.sub hp))))
        | lst e1 r2 => exact .inr ⟨_, _, rfl, SqL.of (g3.sub _ _ e1), fun p hp => q _ _ _ (G.trans (Grow.add g3.sub hp)) (.lst upd_same ((cut_reps r2).ex (Ex.new (fresh_sub g3.sub hp))))⟩
        | _ => exact q.elim
end
end DL

set_option Elab.async false
set_option linter.all false
set_option maxRecDepth 100000
set_option maxHeartbeats 1000000
namespace DL
variable [Tabs]
open PySem L2
open Evl (Ex)

/-! ### dicts as two lists -/
def putD {κ : Type} [DecidableEq κ] (ks : List κ) (vs : List D) (k : κ) (v : D) : List κ × List D :=
  if ks.any (fun a => decide (a = k)) = true then (ks, List.zipWith (fun a b => if a = k then v else b) ks vs) else (ks ++ [k], vs ++ [v])
def getD' {κ : Type} [DecidableEq κ] : List κ → List D → κ → Option D
  | a :: ks, b :: vs, k => if a = k then some b else getD' ks vs k
  | _, _, _ => none
theorem put_any {κ κ' : Type} [DecidableEq κ] [DecidableEq κ'] (f : κ → κ') (hf : ∀ a b, f a = f b → a = b) {k : κ} : ∀ {kvs : List (κ' × V)} {ks : List κ}, kvs.map (·.1) = ks.map f → (kvs.any fun kv => decide (kv.1 = f k)) = ks.any fun a => decide (a = k)
  | [], [], _ => rfl
  | [], _ :: _, h => by simp at h
  | _ :: _, [], h => by simp at h
  | (a, b) :: kvs, c :: ks, h => by
    simp only [List.map_cons, List.cons.injEq] at h
    obtain ⟨h1, h2⟩ := h
    have ih := put_any f hf (k := k) h2
    have e : decide (a = f k) = decide (c = k) := by
      by_cases z : c = k
      · rw [decide_eq_true z, decide_eq_true (by rw [h1, z])]
      · rw [decide_eq_false z, decide_eq_false fun y => z (hf _ _ (h1.symm.trans y))]
    simp only [List.any_cons, ih, e]
theorem put_map {K : PySem.W.Frag} {F : Hp} {κ κ' : Type} [DecidableEq κ] [DecidableEq κ'] (f : κ → κ') (hf : ∀ a b, f a = f b → a = b) {k : κ} {v : V} {d : D} (r : Rep K F v d) : ∀ {kvs : List (κ' × V)} {ks : List κ} {ds : List D}, kvs.map (·.1) = ks.map f → Reps K F (kvs.map (·.2)) ds →
    (kvs.map fun kv => if kv.1 = f k then (kv.1, v) else kv).map (·.1) = ks.map f ∧ Reps K F ((kvs.map fun kv => if kv.1 = f k then (kv.1, v) else kv).map (·.2)) (List.zipWith (fun a b => if a = k then d else b) ks ds)
  | [], [], _, _, .nil => ⟨rfl, .nil⟩
  | [], _ :: _, _, h, _ => by simp at h
  | _ :: _, [], _, h, _ => by simp at h
  | (a, b) :: kvs, c :: ks, _, h, .cons (d := d') (ds := ds) rb rt => by
    simp only [List.map_cons, List.cons.injEq] at h
    obtain ⟨h1, h2⟩ := h
    obtain ⟨i1, i2⟩ := put_map f hf (k := k) r h2 rt
    by_cases e : c = k
    · subst e
      simp only [List.map_cons, List.zipWith_cons_cons, if_pos h1, if_true, i1, h1, true_and]
      exact .cons r i2
    · have e2 : ¬ a = f k := fun z => e (hf _ _ (h1.symm.trans z))
      simp only [List.map_cons, List.zipWith_cons_cons, if_neg e2, if_neg e, i1]
      exact ⟨by rw [h1], .cons rb i2⟩
theorem put_rep {K : PySem.W.Frag} {F : Hp} {κ κ' : Type} [DecidableEq κ] [DecidableEq κ'] (f : κ → κ') (hf : ∀ a b, f a = f b → a = b) {k : κ} {v : V} {d : D} (r : Rep K F v d) {kvs : List (κ' × V)} {ks : List κ} {ds : List D} (h : kvs.map (·.1) = ks.map f) (rs : Reps K F (kvs.map (·.2)) ds) :
    (putK kvs (f k) v).map (·.1) = (putD ks ds k d).1.map f ∧ Reps K F ((putK kvs (f k) v).map (·.2)) (putD ks ds k d).2 := by
  unfold putK putD
  rw [put_any f hf h]
  split
  · exact put_map f hf r h rs
  · rw [List.map_append, List.map_append, List.map_append, h]
    exact ⟨rfl, rs.append (.cons r .nil)⟩
theorem get_rep {K : PySem.W.Frag} {F : Hp} {κ κ' : Type} [DecidableEq κ] [DecidableEq κ'] (f : κ → κ') (hf : ∀ a b, f a = f b → a = b) {k : κ} : ∀ {kvs : List (κ' × V)} {ks : List κ} {ds : List D}, kvs.map (·.1) = ks.map f → Reps K F (kvs.map (·.2)) ds →
    (∀ d, getD' ks ds k = some d → ∃ v, valV kvs (f k) = some v ∧ Rep K F v d) ∧ (getD' ks ds k = none → valV kvs (f k) = none)
  | [], [], _, _, .nil => ⟨fun d h => (by cases h), fun _ => rfl⟩
  | [], _ :: _, _, h, _ => by simp at h
  | _ :: _, [], _, h, _ => by simp at h
  | (a, b) :: kvs, c :: ks, _, h, .cons (d := d') (ds := ds) rb rt => by
    simp only [List.map_cons, List.cons.injEq] at h
    obtain ⟨h1, h2⟩ := h
    obtain ⟨i1, i2⟩ := get_rep f hf (k := k) h2 rt
    unfold getD'
    by_cases e : c = k
    · subst e
      rw [if_pos rfl, valV_pos h1]
      exact ⟨fun d h => by { cases h; exact ⟨b, rfl, rb⟩ }, fun h => (by cases h)⟩
    · have e2 : ¬ a = f k := fun z => e (hf _ _ (h1.symm.trans z))
      rw [if_neg e, valV_neg e2]
      exact ⟨i1, i2⟩
theorem inl_inj (a b : Int) (h : (Sum.inl a : Key) = Sum.inl b) : a = b := Sum.inl.inj h
theorem inls_inj (a b : List Int) (h : (a.map Sum.inl : List Key) = b.map Sum.inl) : a = b := by
  induction a generalizing b with
  | nil => cases b with
    | nil => rfl
    | cons _ _ => simp at h
  | cons x r ih => cases b with
    | nil => simp at h
    | cons y t =>
      simp only [List.map_cons, List.cons.injEq, Sum.inl.injEq] at h
      rw [h.1, ih t h.2]

/-! ### without own slots -/
def clr : Slot → Slot
  | .own _ => .un
  | s => s
def NoOwn (ρ : Env) : Prop := ∀ (i : Nat) o, ρ[i]? ≠ some (.own o)
theorem noOwn_clr (ρ : Env) : NoOwn (ρ.map clr) := by
  intro i o h
  rw [List.getElem?_map] at h
  cases e : ρ[i]? with
  | none => rw [e] at h; cases h
  | some s => rw [e] at h; cases s <;> cases h
theorem noOwn_set {ρ : Env} {i : Nat} {d : D} (h : NoOwn ρ) : NoOwn (ρ.set i (.val d)) := by
  intro j o e
  by_cases q : i = j
  · subst q
    by_cases hl : i < ρ.length
    · rw [List.getElem?_set_self hl] at e; cases e
    · rw [List.getElem?_eq_none (by simpa using hl)] at e; cases e
  · rw [List.getElem?_set_ne q] at e
    exact h j o e
theorem noOwn_wipe {ρ : Env} (h : NoOwn ρ) : ∀ vs : List Nat, NoOwn (wipeE ρ vs)
  | [] => h
  | v :: vs => by
    have ih := noOwn_wipe h vs
    intro j o e
    unfold wipeE at e
    by_cases q : v = j
    · subst q
      by_cases hl : v < (wipeE ρ vs).length
      · rw [List.getElem?_set_self hl] at e; cases e
      · rw [List.getElem?_eq_none (by simpa using hl)] at e; cases e
    · rw [List.getElem?_set_ne q] at e
      exact ih j o e
theorem Srep.clr {K : PySem.W.Frag} {F0 H0 F H : Hp} {σ : L2.St} {ρ : Env} (S : Srep K F0 H0 F H σ ρ) : Srep K F0 H0 F H σ (ρ.map DL.clr) := by
  refine ⟨S.grow, by simp [S.len], fun i d h => ?_, fun i o h => absurd h (noOwn_clr ρ i o), fun i j o o' a h => absurd h (noOwn_clr ρ i o), S.tab⟩
  rw [List.getElem?_map] at h
  cases e : ρ[i]? with
  | none => rw [e] at h; cases h
  | some s =>
    rw [e] at h
    cases s with
    | val d' => cases h; exact S.val i d e
    | un => cases h
    | own o => cases h
theorem Srep.free {K : PySem.W.Frag} {F0 H0 F H F' H' : Hp} {σ : L2.St} {ρ : Env} (S : Srep K F0 H0 F H σ ρ) (no : NoOwn ρ) (ef : Ex F F') (g : Grow F0 H0 F' H') (t : ∀ P ∈ Tabs.all, TabRep F' H' P) : Srep K F0 H0 F' H' σ ρ :=
  ⟨g, S.len, fun i d h => let ⟨v, h1, h2⟩ := S.val i d h; ⟨v, h1, h2.ex ef⟩, fun i o h => absurd h (no i o), fun i j o o' a h => absurd h (no i o), t⟩

/-! ### dict comprehensions, keys ints -/
/-- {k: v for tg in items}, put upon what stands -/
def dIn (g : D → Env → Option Env) (ek ev : Env → R D) (ρ : Env) : List D → List Int → List D → R (List Int × List D)
  | [], ks, vs => .ok (ks, vs)
  | d :: r, ks, vs => match g d ρ with
    | none => .bad
    | some ρ1 => match ek ρ1 with
      | .ok (.int k) => (match ev ρ1 with
        | .ok v => if ks.length < 100000 then dIn g ek ev ρ r (putD ks vs k v).1 (putD ks vs k v).2 else .bad
        | _ => .bad)
      | _ => .bad
def dOut (g : D → Env → Option Env) (f1 : Env → R (List D)) (g1 : D → Env → Option Env) (ek ev : Env → R D) (vs1 : List Nat) (ρ : Env) : List D → List Int → List D → R (List Int × List D)
  | [], ks, vs => .ok (ks, vs)
  | d :: r, ks, vs => match g d ρ with
    | none => .bad
    | some ρ1 => match f1 ρ1 with
      | .ok items => (match dIn g1 ek ev (wipeE ρ1 vs1) items ks vs with
        | .ok p => dOut g f1 g1 ek ev vs1 ρ r p.1 p.2
        | _ => .bad)
      | _ => .bad
def oDc2 (f : Env → R (List D)) (g : D → Env → Option Env) (f1 : Env → R (List D)) (g1 : D → Env → Option Env) (ek ev : Env → R D) (vs vs1 : List Nat) : Env → R Ow := fun ρ => (f ρ).bind fun items => match dOut g f1 g1 ek ev vs1 (wipeE (ρ.map clr) vs) items [] [] with
  | .ok p => .ok (.dI p.1 p.2)
  | _ => .bad
def oDc (f : Env → R (List D)) (g : D → Env → Option Env) (ek ev : Env → R D) (vs : List Nat) : Env → R Ow := fun ρ => (f ρ).bind fun items => match dIn g ek ev (wipeE (ρ.map clr) vs) items [] [] with
  | .ok p => .ok (.dI p.1 p.2)
  | _ => .bad
/-- the dict at D while it is made -/
structure Mk (K : PySem.W.Frag) (F1 H1 : Hp) (D : Addr) (F' H' : Hp) (ks : List Int) (vs : List DL.D) : Prop where
  g : Grow F1 H1 F' H'
  fd : F' D = none
  ex : ∃ kvs : List (Key × V), H' D = some (.dK kvs) ∧ kvs.map (·.1) = ks.map Sum.inl ∧ Reps K F' (kvs.map (·.2)) vs
theorem Mk.go {K : PySem.W.Frag} {F1 H1 F' H' F'' H'' : Hp} {D : Addr} {ks : List Int} {vs : List DL.D} (m : Mk K F1 H1 D F' H' ks vs) (g : Grow F' H' F'' H'') : Mk K F1 H1 D F'' H'' ks vs := by
  obtain ⟨kvs, h1, h2, h3⟩ := m.ex
  exact ⟨m.g.trans g, (g.new D _ h1 (by intro xs z; cases z)).trans m.fd, kvs, g.eh.at h1, h2, h3.ex g.ef⟩
theorem Mk.put {K : PySem.W.Frag} {F1 H1 F' H' : Hp} {D : Addr} {ks : List Int} {vs : List DL.D} {k : Int} {v : V} {d : DL.D} (m : Mk K F1 H1 D F' H' ks vs) (h1 : H1 D = none) (r : Rep K F' v d) (hl : ks.length < 100000) :
    ∃ kvs, H' D = some (.dK kvs) ∧ kvs.length < sizeLine ∧ Mk K F1 H1 D F' (upd H' D (.dK (putK kvs (Sum.inl k) v))) (putD ks vs k d).1 (putD ks vs k d).2 := by
  obtain ⟨kvs, e1, e2, e3⟩ := m.ex
  have hk : kvs.length = ks.length := by
    have := congrArg List.length e2
    simpa using this
  obtain ⟨p1, p2⟩ := put_rep (κ' := Key) Sum.inl inl_inj (k := k) r e2 e3
  refine ⟨kvs, e1, by rw [hk]; exact szlt hl, ⟨m.g.ef, m.g.eh.mut h1, fun a o h => ?_, m.g.new⟩, m.fd, _, upd_same, p1, p2⟩
  rw [upd_ne (fun z => by rw [z, m.fd] at h; cases h)]
  exact m.g.sub a o h
section
variable {X : Cx} {W : WX} {pos : Pos}
theorem wipe_idem {σ : L2.St} (vs : List Nat) : ∀ us : List Nat, (∀ u ∈ us, u ∈ vs) → L2.wipe (L2.wipe σ vs) us = L2.wipe σ vs
  | [], _ => rfl
  | u :: us, hu => by
    show (L2.wipe (L2.wipe σ vs) us).set u none = _
    rw [wipe_idem vs us fun z hz => hu z (List.mem_cons_of_mem _ hz)]
    have hu' := hu u List.mem_cons_self
    apply List.ext_getElem?
    intro k
    by_cases hk : u = k
    · subst hk
      by_cases hl : u < (L2.wipe σ vs).length
      · rw [List.getElem?_set_self hl]
        cases hv : (L2.wipe σ vs)[u]? with
        | none => rw [List.getElem?_eq_none_iff] at hv; omega
        | some o => cases o with
          | none => rfl
          | some z => exact absurd hu' (wipe_some hv).2
      · rw [List.getElem?_eq_none (by simpa using hl), List.getElem?_eq_none (by simpa using hl)]
    · rw [List.getElem?_set_ne hk]
/-- the target makes no own slot -/
def Tame (g : D → Env → Option Env) : Prop := ∀ d ρ ρ', NoOwn ρ → g d ρ = some ρ' → NoOwn ρ'
theorem tame_set (i : Nat) : Tame (gSet i) := fun d ρ ρ' h e => by cases e; exact noOwn_set h
theorem drop_at {items : List D} {i : Nat} {d : D} (hlt : i < items.length) (hd : items[i]? = some d) : items.drop i = d :: items.drop (i + 1) := by
  rw [List.drop_eq_getElem_cons hlt]
  rw [List.getElem?_eq_getElem hlt] at hd
  cases hd
  rfl
theorem dc2_of {K : PySem.W.Frag} {is is1 vs vs1 : List Nat} {f f1 : Env → R (List D)} {g g1 : D → Env → Option Env} {ek ev : Env → R D} (his : ∀ i ∈ is, i ∈ vs) (his1 : ∀ i ∈ is1, i ∈ vs1) (tg : Tame g) (tg1 : Tame g1) {σ : L2.St} {H : Hp} {Q : VK} (hh : tDo K W (oDc2 f g f1 g1 ek ev vs vs1) σ H Q) :
    tDc2 (tIg K W f) (tG K is g) (tI K WN f1) (tG K is1 g1) (tD K WN ek) (tD K WN ev) vs vs1 σ H Q := by
  obtain ⟨F0, H0, F, ρ, S, q⟩ := hh
  unfold oDc2 at q
  refine ⟨F0, H0, F, ρ, S, ?_⟩
  cases ef : f ρ with
  | bad => rw [ef] at q; exact q.elim
  | exc c => rw [ef] at q; exact q
  | ok items =>
    rw [ef, R.bind_ok] at q
    cases el : dOut g f1 g1 ek ev vs1 (wipeE (ρ.map clr) vs) items [] [] with
    | bad => rw [el] at q; exact q.elim
    | exc c => rw [el] at q; exact q.elim
    | ok total =>
      rw [el] at q
      intro J F1 H1 gg1 G Dl hD
      have hDH : H Dl = none := gg1.eh.fresh hD
      have S0 : Srep K F0 H0 F1 H1 (L2.wipe σ vs) (wipeE (ρ.map clr) vs) := ((S.go gg1).clr).wipe vs
      have N0 : NoOwn (wipeE (ρ.map clr) vs) := noOwn_wipe (noOwn_clr ρ) vs
      have gr : ∀ {F' H' ks ds}, Mk K F1 H1 Dl F' H' ks ds → Grow F0 H0 F' H' := fun m => (S.grow.trans gg1).trans m.g
      refine ⟨fun i m H' => m = items.length - i ∧ i ≤ items.length ∧ ∃ F' ks ds, Mk K F1 H1 Dl F' H' ks ds ∧ dOut g f1 g1 ek ev vs1 (wipeE (ρ.map clr) vs) (items.drop i) ks ds = .ok total, ?_, ?_⟩
      · exact ⟨items.length, by simp, Nat.zero_le _, F1, [], [], ⟨Grow.addH gg1.sub hD, fresh_sub gg1.sub hD, [], upd_same, rfl, .nil⟩, by rw [List.drop_zero]; exact el⟩
      · rintro i m H' ⟨rfl, hi, F', ks, ds, mk, hl⟩
        by_cases hlt : i < items.length
        · refine .inr ⟨G.go i F' H' mk.g hlt, fun H'' => ∃ F' ks ds, Mk K F1 H1 Dl F' H'' ks ds ∧ dOut g f1 g1 ek ev vs1 (wipeE (ρ.map clr) vs) (items.drop (i + 1)) ks ds = .ok total, fun H'' h => ⟨items.length - (i + 1), by omega, rfl, hlt, h⟩, fun x H'' y => ?_⟩
          obtain ⟨F'', d, hd, g3, r3⟩ := G.yld i F' H' x H'' mk.g hlt y
          rw [drop_at hlt hd] at hl
          unfold dOut at hl
          have mk2 := mk.go g3
          cases eg : g d (wipeE (ρ.map clr) vs) with
          | none => rw [eg] at hl; cases hl
          | some ρ1 =>
            simp only [eg] at hl
            have N1 : NoOwn ρ1 := tg d _ _ N0 eg
            have S2 : Srep K F0 H0 F'' H'' (L2.wipe σ vs) (wipeE (ρ.map clr) vs) := S0.free N0 mk2.g.ef (gr mk2) fun P h => (S0.tab P h).go mk2.g
            refine ⟨F0, H0, F'', _, d, ρ1, S2, r3, eg, fun σ2 S3 sm => ⟨?_, ?_⟩⟩
            · rw [sm vs his]
              exact wipe_idem vs vs fun _ h => h
            · refine ⟨F0, H0, F'', ρ1, S3, ?_⟩
              cases e1 : f1 ρ1 with
              | bad => simp only [e1] at hl; cases hl
              | exc c => simp only [e1] at hl; cases hl
              | ok items1 =>
                simp only [e1] at hl
                cases e2 : dIn g1 ek ev (wipeE ρ1 vs1) items1 ks ds with
                | bad => simp only [e2] at hl; cases hl
                | exc c => simp only [e2] at hl; cases hl
                | ok p =>
                  simp only [e2] at hl
                  intro J1 F4 H4 g4 G1
                  have N2 : NoOwn (wipeE ρ1 vs1) := noOwn_wipe N1 vs1
                  have S4 : Srep K F0 H0 F4 H4 (L2.wipe σ2 vs1) (wipeE ρ1 vs1) := (S3.go g4).wipe vs1
                  refine ⟨fun j k H' => k = items1.length - j ∧ j ≤ items1.length ∧ ∃ F' ks ds, Ex F4 F' ∧ Mk K F1 H1 Dl F' H' ks ds ∧ dIn g1 ek ev (wipeE ρ1 vs1) (items1.drop j) ks ds = .ok p, ?_, ?_⟩
                  · exact ⟨items1.length, by simp, Nat.zero_le _, F4, ks, ds, Ex.refl F4, mk2.go g4, by rw [List.drop_zero]; exact e2⟩
                  · rintro j k H5 ⟨rfl, hj, F5, ks5, ds5, e5, mk5, hl5⟩
                    by_cases hjt : j < items1.length
                    · refine .inr ⟨G1.go j F5 H5 e5 mk5.g.sub hjt, fun H6 => ∃ F' ks ds, Ex F4 F' ∧ Mk K F1 H1 Dl F' H6 ks ds ∧ dIn g1 ek ev (wipeE ρ1 vs1) (items1.drop (j + 1)) ks ds = .ok p, fun H6 h => ⟨items1.length - (j + 1), by omega, rfl, hjt, h⟩, fun x1 H6 y1 => ?_⟩
                      obtain ⟨F6, d1, hd1, g6, r6⟩ := G1.yld j F5 H5 x1 H6 e5 mk5.g.sub hjt y1
                      rw [drop_at hjt hd1] at hl5
                      unfold dIn at hl5
                      have mk6 := mk5.go g6
                      cases eg1 : g1 d1 (wipeE ρ1 vs1) with
                      | none => rw [eg1] at hl5; cases hl5
                      | some ρ2 =>
                        simp only [eg1] at hl5
                        have S6 : Srep K F0 H0 F6 H6 (L2.wipe σ2 vs1) (wipeE ρ1 vs1) := S4.free N2 (e5.trans g6.ef) (gr mk6) fun P h => (S0.tab P h).go mk6.g
                        refine ⟨F0, H0, F6, _, d1, ρ2, S6, r6, eg1, fun σ3 S7 sm1 => ⟨?_, ?_⟩⟩
                        · rw [sm1 vs1 his1]
                          exact wipe_idem vs1 vs1 fun _ h => h
                        · cases e3 : ek ρ2 with
                          | bad => simp only [e3] at hl5; cases hl5
                          | exc c => simp only [e3] at hl5; cases hl5
                          | ok kd =>
                            simp only [e3] at hl5
                            refine tD_ok S7 e3 fun kv F7 H7 g7 r7 => ?_
                            cases r7 with
                            | int kk =>
                              cases e4 : ev ρ2 with
                              | bad => simp only [e4] at hl5; cases hl5
                              | exc c => simp only [e4] at hl5; cases hl5
                              | ok vd =>
                                simp only [e4] at hl5
                                refine tD_ok (S7.go g7) e4 fun vv F8 H8 g8 r8 => ?_
                                split at hl5
                                · rename_i hsz
                                  obtain ⟨kvs, k1, k2, k3⟩ := ((mk6.go g7).go g8).put (k := kk) hD r8 hsz
                                  exact ⟨kvs, Sum.inl kk, rfl, k1, k2, F8, _, _, ((e5.trans g6.ef).trans g7.ef).trans g8.ef, k3, hl5⟩
                                · cases hl5
                            | _ => cases hl5
                    · have e : j = items1.length := by omega
                      subst e
                      rw [List.drop_length] at hl5
                      cases hl5
                      exact .inl ⟨G1.stop F5 H5 e5 mk5.g.sub, F5, _, _, mk5, hl⟩
        · have e : i = items.length := by omega
          subst e
          rw [List.drop_length] at hl
          cases hl
          obtain ⟨kvs, h1, h2, h3⟩ := mk.ex
          exact .inl ⟨G.stop F' H' mk.g, q Dl _ F' H' hDH (gg1.trans mk.g) mk.fd h1 ⟨kvs, rfl, h2, h3⟩⟩
theorem do_dc2 {is is1 : List Nat} {kx vx tg iter tg1 iter1 : Expr} {scope : Scope} {own : List (Str × Nat)} {vs1 : List Nat} {f f1 : Env → R (List D)} {g g1 : D → Env → Option Env} {ek ev : Env → R D} (hc : X.calm = true) (hN : X.N.Nodup) (hi : DIg X W tg iter f) (ok : BlkOk X.N X.env.scope scope own)
    (hg : AllB X scope fun Y => DG Y is tg g) (hi1 : AllB X scope fun Y => DI Y WN tg1 iter1 f1) (hg1 : AllB X scope fun Y => DG Y is1 tg1 g1) (hk : AllB X scope fun Y => DE Y WN kx ek) (he : AllB X scope fun Y => DE Y WN vx ev) (t0 : Tame g) (t1 : Tame g1)
    (hv : ∀ i ∈ vs1, i ∈ own.map (·.2) := by decide) (his : ∀ i ∈ is, i ∈ own.map (·.2) := by decide) (his1 : ∀ i ∈ is1, i ∈ vs1 := by decide) (hs : ∀ x, foldedSetIterable iter X.env x = pure x := by intro _; rfl) (hs1 : ∀ env x, foldedSetIterable iter1 env x = pure x := by intro _ _; rfl) :
    DO X W (DC2 kx vx tg iter tg1 iter1 scope pos) (oDc2 f g f1 g1 ek ev (own.map (·.2)) vs1) :=
  pe_imp (pe_dc2 hc hN hi ok hv hg hi1 hg1 hk he hs hs1) fun σ H Q hh => dc2_of his his1 t0 t1 hh
end
end DL

set_option Elab.async false
set_option linter.all false
set_option maxRecDepth 100000
set_option maxHeartbeats 1000000
namespace DL
variable [Tabs]
open PySem L2
open Evl (Ex)
open RZ (ItzT iZipA pi_zipA)

/-! ### // by a great divisor -/
section
variable {K : PySem.W.Frag}
def gFdivW : D → D → Option D := gI (fun _ j => decide (0 < j) && decide (j < 2 ^ 64)) fun i j => .int (i / j)
theorem ops_fdivW : OpS K (rI CDivW fun i j => .int (i / j)) gFdivW := ops_I (fun i j h => by
  rw [Bool.and_eq_true] at h
  have h1 : 0 < j := of_decide_eq_true h.1
  have h2 : j < 2 ^ 64 := of_decide_eq_true h.2
  exact wide_div h1 (b := 64) (by omega) (by decide) (by decide)) fun _ _ _ => .int _
end
section
variable {X : Cx} {W : WX} {pos : Pos}
theorem de_fdivW {a b : Expr} {fa fb : Env → R D} (ha : DE X W a fa) (hb : DE X W b fb) : DE X W (.BinOp a .FloorDiv b pos) (op2 gFdivW fa fb) := de_op op_fdivW ops_fdivW ha hb

/-! ### zip, enumerate -/
def zipD (l m : List D) : List D := List.zipWith (fun a b => .tup [a, b]) l m
def iZipD (f : Env → R (List D)) : Env → R (List D) := fun ρ => (f ρ).bind fun as => match as with
  | [.lst l, .lst m] => .ok (zipD l m)
  | [.tup l, .tup m] => .ok (zipD l m)
  | _ => .bad
theorem good_zip {K : PySem.W.Frag} {F : Hp} {a b : Addr} {xs ys : List V} {ds es : List D} (hx : F a = some (.lst xs)) (hy : F b = some (.lst ys)) (rx : Reps K F xs ds) (ry : Reps K F ys es) : GoodF K (Itz K a b) F (zipD ds es) := by
  have l1 := rx.length
  have l2 := ry.length
  have wz := walk_zip (K := K) (a := a) (b := b) (xs := xs) (ys := ys) (n := (zipD ds es).length) (by simp [zipD, l1, l2])
  have st : ∀ F' H', Ex F F' → Ex F' H' → SqL K H' a xs ∧ SqL K H' b ys := fun F' H' e s => ⟨SqL.of (s _ _ (e _ _ hx)), SqL.of (s _ _ (e _ _ hy))⟩
  refine ⟨fun i F' H' e s hi => wz.goes i H' hi (st F' H' e s), fun F' H' e s => wz.stops H' (st F' H' e s), fun i F' H' x H'' e s hi y => ?_⟩
  obtain ⟨T, u, v, e1, e2, e3, e4, e5⟩ := wz.yields i H' x H'' hi (st F' H' e s) y
  subst e1 e3
  obtain ⟨d1, k1, k2⟩ := rx.get e4
  obtain ⟨d2, k3, k4⟩ := ry.get e5
  refine ⟨_, .tup [d1, d2], by simp [zipD, List.getElem?_zipWith, k1, k3], Grow.add s e2, .tup upd_same (.cons ?_ (.cons ?_ .nil))⟩
  · exact (k2.ex e).ex (Ex.new (fresh_sub s e2))
  · exact (k4.ex e).ex (Ex.new (fresh_sub s e2))
theorem walk_zipT {K : PySem.W.Frag} {a b : Addr} {xs ys : List V} {n : Nat} (hn : n = min xs.length ys.length) : Walk (ItzT K a b) n (fun H => SqT K H a xs ∧ SqT K H b ys) (YPair (fun i => xs[i]?) (fun i => ys[i]?)) := by
  subst hn
  refine ⟨fun i _ hi q => ?_, fun _ q => ⟨xs, ys, q.1, q.2, by omega⟩, fun i H v H' _ q y => ?_⟩
  · have h1 : i < xs.length := by omega
    have h2 : i < ys.length := by omega
    exact ⟨xs, ys, xs[i], ys[i], q.1, q.2, by simp [h1], by simp [h2]⟩
  · obtain ⟨T, x, z, h1, h2, h3, h4, h5⟩ := y
    exact ⟨T, x, z, h1, h2, h3, h4 xs q.1, h5 ys q.2⟩
theorem good_zipT {K : PySem.W.Frag} {F : Hp} {a b : Addr} {xs ys : List V} {ds es : List D} (hx : SqT K F a xs) (hy : SqT K F b ys) (rx : Reps K F xs ds) (ry : Reps K F ys es) : GoodF K (ItzT K a b) F (zipD ds es) := by
  have l1 := rx.length
  have l2 := ry.length
  have wz := walk_zipT (K := K) (a := a) (b := b) (xs := xs) (ys := ys) (n := (zipD ds es).length) (by simp [zipD, l1, l2])
  have st : ∀ F' H', Ex F F' → Ex F' H' → SqT K H' a xs ∧ SqT K H' b ys := fun F' H' e s => ⟨sqT_ex (e.trans s) hx, sqT_ex (e.trans s) hy⟩
  refine ⟨fun i F' H' e s hi => wz.goes i H' hi (st F' H' e s), fun F' H' e s => wz.stops H' (st F' H' e s), fun i F' H' x H'' e s hi y => ?_⟩
  obtain ⟨T, u, v, e1, e2, e3, e4, e5⟩ := wz.yields i H' x H'' hi (st F' H' e s) y
  subst e1 e3
  obtain ⟨d1, k1, k2⟩ := rx.get e4
  obtain ⟨d2, k3, k4⟩ := ry.get e5
  refine ⟨_, .tup [d1, d2], by simp [zipD, List.getElem?_zipWith, k1, k3], Grow.add s e2, .tup upd_same (.cons ?_ (.cons ?_ .nil))⟩
  · exact (k2.ex e).ex (Ex.new (fresh_sub s e2))
  · exact (k4.ex e).ex (Ex.new (fresh_sub s e2))
theorem di_zip {elts : List Expr} {kk : Nat} {tpos : Pos} {iter : Expr} {f : Env → R (List D)} (base : PI X (.Tuple elts kk tpos) iter (iZipA X.K (tDs X.K W f))) (hl : ∀ ρ ds, f ρ = .ok ds → ds.length = 2) : DI X W (.Tuple elts kk tpos) iter (iZipD f) := by
  refine pi_imp base fun σ H Q ⟨F0, H0, F, ρ, S, q⟩ => ?_
  unfold iZipD at q
  cases ef : f ρ with
  | bad => rw [ef] at q; exact q.elim
  | exc c => rw [ef] at q; exact tDs_exc S ef q
  | ok as =>
    rw [ef, R.bind_ok] at q
    refine tDs_ok S ef fun vs F1 H1 g1 r1 => ?_
    match as, hl ρ as ef, r1 with
    | [d, e], _, .cons r (.cons r' .nil) =>
      cases r with
      | lst e1 k1 => cases r' with
        | lst e2 k2 => exact ⟨_, _, _, _, rfl, .inl ⟨SqL.of (g1.sub _ _ e1), SqL.of (g1.sub _ _ e2), q _ F1 H1 g1 (good_zip e1 e2 k1 k2)⟩⟩
        | _ => exact q.elim
      | tup e1 k1 => cases r' with
        | tup e2 k2 => exact ⟨_, _, _, _, rfl, .inr ⟨tT g1.sub e1, tT g1.sub e2, q _ F1 H1 g1 (good_zipT (SqT.of e1) (SqT.of e2) k1 k2)⟩⟩
        | _ => exact q.elim
      | _ => exact q.elim
def enumD (l : List D) : List D := l.zipIdx.map fun p => .tup [.int (p.2 : Nat), p.1]
def iEnumD (f : Env → R (List D)) : Env → R (List D) := fun ρ => (f ρ).bind fun as => match as with
  | [.tup l] => .ok (enumD l)
  | _ => .bad
theorem good_enumT {K : PySem.W.Frag} {F : Hp} {a : Addr} {xs : List V} {ds : List D} (hx : SqT K F a xs) (rx : Reps K F xs ds) : GoodF K (ItE K a) F (enumD ds) := by
  have l1 := rx.length
  have le : (enumD ds).length = xs.length := by simp [enumD, l1]
  refine ⟨fun i F' H' e s hi => ?_, fun F' H' e s => ⟨xs, sqT_ex (e.trans s) hx, le.symm⟩, fun i F' H' x H'' e s hi y => ?_⟩
  · have hi : i < xs.length := by omega
    exact ⟨xs, xs[i], sqT_ex (e.trans s) hx, by simp [hi]⟩
  · obtain ⟨T, u, e1, e2, e3, e4⟩ := y
    subst e1 e3
    obtain ⟨d1, k1, k2⟩ := rx.get (e4 xs (sqT_ex (e.trans s) hx))
    refine ⟨_, .tup [.int (i : Nat), d1], by simp [enumD, k1], Grow.add s e2, .tup upd_same (.cons (.int _) (.cons ?_ .nil))⟩
    exact (k2.ex e).ex (Ex.new (fresh_sub s e2))
theorem di_enumT {elts : List Expr} {kk : Nat} {tpos : Pos} {iter : Expr} {f : Env → R (List D)} (base : PI X (.Tuple elts kk tpos) iter (iEnumT X.K (tDs X.K W f))) (hl : ∀ ρ ds, f ρ = .ok ds → ds.length = 1) : DI X W (.Tuple elts kk tpos) iter (iEnumD f) := by
  refine pi_imp base fun σ H Q ⟨F0, H0, F, ρ, S, q⟩ => ?_
  unfold iEnumD at q
  cases ef : f ρ with
  | bad => rw [ef] at q; exact q.elim
  | exc c => rw [ef] at q; exact tDs_exc S ef q
  | ok as =>
    rw [ef, R.bind_ok] at q
    refine tDs_ok S ef fun vs F1 H1 g1 r1 => ?_
    match as, hl ρ as ef, r1 with
    | [d], _, .cons r .nil =>
      cases r with
      | tup e1 k1 => exact ⟨_, _, rfl, tT g1.sub e1, q _ F1 H1 g1 (good_enumT (SqT.of e1) k1)⟩
      | _ => exact q.elim

/-! ### sorted(set(x)) of ints -/
/-- strictly rising, each once -/
def insU (x : Int) : List Int → List Int
  | [] => [x]
  | y :: r => if x < y then x :: y :: r else if x = y then y :: r else y :: insU x r
def srtU : List Int → List Int
  | [] => []
  | x :: r => insU x (srtU r)
theorem insU_mem (x z : Int) : ∀ l : List Int, z ∈ insU x l ↔ z = x ∨ z ∈ l
  | [] => by simp [insU]
  | y :: r => by
    unfold insU
    split
    · simp
    · split
      · rename_i h
        subst h
        simp
      · rw [List.mem_cons, insU_mem x z r, List.mem_cons]
        constructor
        · rintro (h | h | h) <;> simp [h]
        · rintro (h | h | h) <;> simp [h]
theorem srtU_mem (z : Int) : ∀ l : List Int, z ∈ srtU l ↔ z ∈ l
  | [] => Iff.rfl
  | x :: r => by rw [srtU, insU_mem, srtU_mem z r, List.mem_cons]
theorem insU_srt (x : Int) : ∀ l : List Int, l.Pairwise (· < ·) → (insU x l).Pairwise (· < ·)
  | [], _ => by simp [insU]
  | y :: r, h => by
    rw [List.pairwise_cons] at h
    unfold insU
    split
    · rename_i c
      rw [List.pairwise_cons, List.pairwise_cons]
      refine ⟨fun z hz => ?_, h⟩
      rcases List.mem_cons.mp hz with rfl | hz
      · exact c
      · exact Int.lt_trans c (h.1 z hz)
    · split
      · rw [List.pairwise_cons]; exact h
      · rename_i c1 c2
        rw [List.pairwise_cons]
        refine ⟨fun z hz => ?_, insU_srt x r h.2⟩
        rcases (insU_mem x z r).mp hz with rfl | hz
        · omega
        · exact h.1 z hz
theorem srtU_srt : ∀ l : List Int, (srtU l).Pairwise (· < ·)
  | [] => List.Pairwise.nil
  | x :: r => insU_srt x _ (srtU_srt r)
theorem rise_uniq : ∀ {l m : List Int}, l.Pairwise (· < ·) → m.Pairwise (· < ·) → (∀ z, z ∈ l ↔ z ∈ m) → l = m
  | [], [], _, _, _ => rfl
  | [], y :: t, _, _, h => absurd ((h y).mpr (by simp)) (by simp)
  | x :: r, [], _, _, h => absurd ((h x).mp (by simp)) (by simp)
  | x :: r, y :: t, h1, h2, h => by
    rw [List.pairwise_cons] at h1 h2
    have e : x = y := by
      have a := (h x).mp (by simp)
      have b := (h y).mpr (by simp)
      rcases List.mem_cons.mp a with a | a
      · exact a
      · rcases List.mem_cons.mp b with b | b
        · exact b.symm
        · have := h1.1 y b
          have := h2.1 x a
          omega
    subst e
    rw [rise_uniq h1.2 h2.2 fun z => ?_]
    constructor
    · intro hz
      rcases List.mem_cons.mp ((h z).mp (by simp [hz])) with e | e
      · subst e; exact absurd (h1.1 z hz) (Int.lt_irrefl _)
      · exact e
    · intro hz
      rcases List.mem_cons.mp ((h z).mpr (by simp [hz])) with e | e
      · subst e; exact absurd (h2.1 z hz) (Int.lt_irrefl _)
      · exact e
def seqInts : D → Option (List Int)
  | .lst l => asInts l
  | .tup l => asInts l
  | _ => none
def oSrtSet (f : Env → R D) : Env → R Ow := fun ρ => (f ρ).bind fun d => match seqInts d with
  | some ns => if ns.length < 64 then .ok (.lst ((srtU ns).map D.int)) else .bad
  | none => .bad
theorem do_srtSet {a : Expr} {f : Env → R D} {p p2 q2 : Pos} (hc : X.calm = true) (hg : Gl X "sorted") (hm : X.mg "sorted" = none) (hg2 : Gl X "set") (hm2 : X.mg "set" = none) (ha : DE X W a f)
    (na : starEach [a] X.env = (false, eval a X.env) :: starEach [] X.env := by rfl) (nb : starEach [.Call (.Name "set" p2) [a] [] q2] X.env = (false, eval (.Call (.Name "set" p2) [a] [] q2) X.env) :: starEach [] X.env := by rfl) :
    DO X W (.Call (.Name "sorted" p) [.Call (.Name "set" p2) [a] [] q2] [] pos) (oSrtSet f) := by
  have h1 : PE X (.Call (.Name "set" p2) [a] [] q2) (tCB (rSetInts X.K X.w) (tCons (tD X.K W f) tNil)) := pe_callTy (cr_setInts hc) hg2 hm2 PyProof.Rows.boot_set (pa_cons ha pa_nil na) (he := na)
  refine pe_imp (pe_callB (id := "sorted") (cr_sortedSet hc) hg hm (by decide +kernel) (pa_cons h1 pa_nil nb) (he := nb)) fun σ H Q ⟨F0, H0, F, ρ, S, q⟩ => ?_
  unfold oSrtSet at q
  show tD X.K W f σ H fun x H1 => rSetInts X.K X.w [x] H1 fun y H2 => rSortedSet X.w [y] H2 Q
  cases ef : f ρ with
  | bad => rw [ef] at q; exact q.elim
  | exc c => rw [ef] at q; exact tD_exc S ef q
  | ok d =>
    rw [ef, R.bind_ok] at q
    refine tD_ok S ef fun v F1 H1 g1 r1 => ?_
    cases es : seqInts d with
    | none => rw [es] at q; exact q.elim
    | some ns =>
      rw [es] at q
      have q : (match (if ns.length < 64 then R.ok (Ow.lst ((srtU ns).map D.int)) else .bad) with
        | .ok o => ∀ p u F' H', H p = none → Grow F H F' H' → F' p = none → H' p = some u → OwRep X.K F' u o → Q (.ref p) H'
        | .exc c => ∀ F' H', Grow F H F' H' → W (.ref c) none σ H'
        | .bad => False) := q
      by_cases h64 : ns.length < 64
      · rw [if_pos h64] at q
        have fin : ∀ a, (SqL X.K H1 a (ns.map V.int) ∨ SqT X.K H1 a (ns.map V.int)) → rSetInts X.K X.w [.ref a] H1 fun y H2 => rSortedSet X.w [y] H2 Q := fun a hs => by
          refine ⟨a, ns, rfl, hs, by omega, fun p n hp hn => ⟨p, _, n, rfl, upd_same, by omega, fun ms p2 hr hm' hl hp2 => ?_⟩⟩
          have e : ms = srtU ns := rise_uniq hr (srtU_srt ns) fun z => by rw [hm' z, srtU_mem, decide_eq_true_eq]
          subst e
          have g2 : Grow F1 H1 F1 (upd H1 p (SetO X.w p (fun j => decide (j ∈ ns)) n)) := Grow.addH g1.sub hp
          have G := (g1.trans g2)
          exact q p2 _ F1 _ (G.eh.fresh hp2) (G.trans (Grow.addH g2.sub hp2)) (fresh_sub g2.sub hp2) upd_same ⟨_, rfl, Reps.ints _⟩
        cases r1 with
        | lst e1 k1 =>
          cases asInts_eq (show asInts _ = some ns from es)
          exact fin _ (.inl (SqL.of (by rw [← k1.of_ints]; exact g1.sub _ _ e1)))
        | tup e1 k1 =>
          cases asInts_eq (show asInts _ = some ns from es)
          exact fin _ (.inr (by rw [← k1.of_ints]; exact tT g1.sub e1))
        | _ => cases es
      · rw [if_neg h64] at q
        exact q.elim

/-! ### xs.index(y), xs.count(y) -/
def idxD (l : List D) (y : D) : Option Nat := l.findIdx? fun z => eqb z y
def eIndex (fo : Env → R D) (fa : Env → R (List D)) : Env → R D := fun ρ => (fo ρ).bind fun o => match o with
  | .lst l => (fa ρ).bind fun as => match as with
    | [y] => if dok 7 y && doks 7 l then (R.lift (idxD l y)).bind fun j => .ok (.int (j : Nat)) else .bad
    | _ => .bad
  | _ => .bad
theorem toPs_get {l : List D} {j : Nat} {z : PyData} (h : (toPs l)[j]? = some z) : ∃ d, l[j]? = some d ∧ z = toP d := by
  rw [toPs_map, List.getElem?_map] at h
  cases e : l[j]? with
  | none => rw [e] at h; cases h
  | some d => rw [e] at h; cases h; exact ⟨d, rfl, rfl⟩
theorem doks_get {n : Nat} {l : List D} {j : Nat} {d : D} (h : doks n l = true) (e : l[j]? = some d) : dok n d = true := by
  rw [doks_all, List.all_eq_true] at h
  exact h d (List.mem_of_getElem? e)
theorem de_index {e : Expr} {fo : Env → R D} {fa : Env → R (List D)} (base : PE X e (tBM X.K "list" (rIndexD X.K) (tD X.K W fo) (tDs X.K W fa))) (hl : ∀ ρ ds, fa ρ = .ok ds → ds.length = 1) : DE X W e (eIndex fo fa) := by
  refine pe_imp base fun σ H Q ⟨F0, H0, F, ρ, S, q⟩ => ?_
  unfold eIndex at q
  show tD X.K W fo σ H fun x H1 => tyV X.K "list" x H1 ∧ tDs X.K W fa σ H1 fun xs H2 => rIndexD X.K x xs H2 Q
  cases eo : fo ρ with
  | bad => rw [eo] at q; exact q.elim
  | exc c => rw [eo] at q; exact tD_exc S eo q
  | ok o =>
    rw [eo, R.bind_ok] at q
    refine tD_ok S eo fun v F1 H1 g1 r1 => ?_
    cases r1 with
    | @lst a xs l e1 k1 =>
      refine ⟨.inl ⟨rfl, _, SqL.of (g1.sub _ _ e1)⟩, ?_⟩
      simp only at q
      cases ea : fa ρ with
      | bad => rw [ea] at q; exact q.elim
      | exc c => rw [ea] at q; exact tDs_exc (S.go g1) ea fun F2 H2 g2 => q F2 H2 (g1.trans g2)
      | ok as =>
        rw [ea, R.bind_ok] at q
        refine tDs_ok (S.go g1) ea fun vs F2 H2 g2 r2 => ?_
        match as, hl ρ as ea, r2 with
        | [y], _, .cons (v := yv) ry .nil =>
          simp only at q
          by_cases hk : (dok 7 y && doks 7 l) = true
          · rw [if_pos hk] at q
            rw [Bool.and_eq_true] at hk
            cases ei : idxD l y with
            | none => rw [ei] at q; exact q.elim
            | some j =>
              rw [ei, R.lift_some, R.bind_ok] at q
              have h8 : dok 8 (.lst l) = true := by simpa [dok] using hk.2
              obtain ⟨hj, hz, hno⟩ := List.findIdx?_eq_some_iff_getElem.mp ei
              refine ⟨a, yv, toP y, toPs l, j, toP l[j], rfl, rfl, ?_, ry.dp g2.sub hk.1, dok_shaped h8, dok_shaped (dok_mono 7 y hk.1), ?_, ?_, fun m z' hm hz' => ?_, q _ F2 H2 (g1.trans g2) (.int _)⟩
              · exact (Rep.lst e1 k1).dp (g2.ef.trans g2.sub) h8
              · rw [toPs_map, List.getElem?_map, List.getElem?_eq_getElem hj]
                rfl
              · rw [eqv_eqb 7 _ _ (doks_get hk.2 (List.getElem?_eq_getElem hj)) hk.1]
                exact hz
              · obtain ⟨d, e3, e4⟩ := toPs_get hz'
                subst e4
                have hml : m < l.length := (List.getElem?_eq_some_iff.mp e3).1
                rw [List.getElem?_eq_getElem hml] at e3
                cases e3
                rw [eqv_eqb 7 _ _ (doks_get hk.2 (List.getElem?_eq_getElem hml)) hk.1]
                have := hno m hm
                simpa using this
          · rw [if_neg hk] at q
            exact q.elim
    | _ => exact q.elim

/-! ### raise, try -/
def sRaise (C : Addr) : SD := fun ρ => some (.xc C ρ)
theorem ds_raise {e : Expr} {C : Addr} (hc : X.calm = true) (tk : Takes X W) (he : PMk X e (fun _ H Q => Q (.ref C) none H)) : DS X W (.Raise (some e) none pos) (sRaise C) :=
  ps_imp (ps_raise hc tk he) fun E σ H ⟨F0, H0, F, ρ, S, q⟩ => q σ F H (Ex.refl F) S
/-- try: b except X as n: h, h hands back; n in slot i; m: which classes are caught; h by the class -/
def sTry (b : SD) (i : Nat) (m : Addr → Option Bool) (h : Addr → Addr → SD) : SD := fun ρ => match b ρ with
  | some (.xc c ρ') => (match m c with
    | some true => (match h c 0 (ρ'.set i (.val (.ref 0))) with
      | some (.rt d) => some (.rt d)
      | _ => none)
    | some false => some (.xc c ρ')
    | none => none)
  | o => o
def tsOf (K : PySem.W.Frag) (h : Addr → Addr → SD) : Addr → Value → Option Addr → TS
  | a, .ref c, none => tS K WN (h c a)
  | _, _, _ => tNever
theorem ds_try {i : Nat} {x n : Str} {c : Value} {body suite : List Stmt} {b0 : Stmt} {np pos' : Pos} {b : SD} {h : Addr → Addr → SD} (hs : X.stack = X.env :: X.outer) (hf : X.env.frame = some X.env.locals) (hN : X.N.Nodup) (hi : X.N[i]? = some n) (hln : X.env.kindOf n = some .local) (hc : Names X x c) (tk : Takes X W)
    (hb : ∀ (V : WX) (pn : List (Addr × Obj)) (xe : Value → Shared → Prop), Takes (X.tr pn xe) V → PassesOwn (model X.prog X.w) X.A X.env xe → DSs (X.tr pn xe) V body b)
    (hsu : ∀ (a : Addr) (oe : Obj) (cl : Addr) (pn : List (Addr × Obj)), Zc (.ref cl) none oe → (∃ vs, oe.data = .fields vs) → PSs (X.suite a ((a, oe) :: pn)) (b0 :: suite) (tS X.K WN (h cl a)))
    (hh : ∀ cl a (ρ : Env) d, h cl 0 (ρ.set i (.val (.ref 0))) = some (.rt d) → h cl a (ρ.set i (.val (.ref a))) = some (.rt d)) :
    DS X W (.Try body [.ExceptHandler (some (.Name x np)) (some n) (b0 :: suite) pos'] [] [] pos) (sTry b i (fun cl => PySem.W.exmOne X.K (.ref cl) c) h) := by
  refine ps_imp (ps_try_as (ts := tsOf X.K h) (Wout := W) (tb := fun V => tS X.K V b) hs hf hN hi hln hc tk hb fun a oe cls d pn hz hd => ?_) fun E σ H ⟨F0, H0, F, ρ, S, q⟩ => ⟨F0, H0, F, ρ, S, ?_⟩
  · unfold tsOf
    split
    · exact hsu a oe _ pn hz hd
    · exact pss_never
  · unfold sTry at q
    cases eb : b ρ with
    | none => rw [eb] at q; exact q.elim
    | some o =>
      rw [eb] at q
      cases o with
      | xc cl ρ' =>
        intro σ' F' H' e' S'
        simp only at q
        cases em : PySem.W.exmOne X.K (.ref cl) c with
        | none => simp only [em] at q; exact q.elim
        | some k =>
          refine ⟨k, em, fun hk a ha => ?_, fun hk => ?_⟩
          · subst hk
            simp only [em] at q
            refine ⟨F0, H0, F', ρ'.set i (.val (.ref a)), S'.set (.ref a), ?_⟩
            cases eh : h cl 0 (ρ'.set i (.val (.ref 0))) with
            | none => simp only [eh] at q; exact q.elim
            | some oh =>
              simp only [eh] at q
              cases oh with
              | rt d =>
                rw [hh cl a ρ' d eh]
                exact q
              | _ => exact q.elim
          · subst hk
            simp only [em] at q
            exact q σ' F' H' e' S'
      | _ => exact q
/-- isinstance(e, C) in the suite of an exception of the class c at a -/
def gIsE (K : PySem.W.Frag) (c a : Addr) : List D → Option D
  | [.ref a', .ref C] => if a' = a then (PySem.W.kitOne K (.ref c) (.ref C)).map D.bl else none
  | [.ref a', .ty n] => if a' = a then (PySem.W.kitOne K (.ref c) (.type n)).map D.bl else none
  | _ => none
theorem cs_isE {K : PySem.W.Frag} {c a : Addr} : CallS K (rIsE K c a) (gIsE K c a) := fun F H xs as d Q s r e q => by
  unfold gIsE at e
  split at e
  · split at e
    · rename_i a' C h
      subst h
      cases ek : PySem.W.kitOne K (.ref c) (.ref C) with
      | none => rw [ek] at e; cases e
      | some b =>
        rw [ek] at e
        cases e
        obtain ⟨v, u, rfl, r1, r2⟩ := r.two
        cases r1
        cases r2
        exact ⟨_, .ref C, b, rfl, fun u hu => hu, ek, q _ F H (Grow.refl s) (.bl _)⟩
    · cases e
  · split at e
    · rename_i a' n h
      subst h
      cases ek : PySem.W.kitOne K (.ref c) (.type n) with
      | none => rw [ek] at e; cases e
      | some b =>
        rw [ek] at e
        cases e
        obtain ⟨v, u, rfl, r1, r2⟩ := r.two
        cases r1
        cases r2
        exact ⟨_, .type n, b, rfl, fun u hu => hu, ek, q _ F H (Grow.refl s) (.bl _)⟩
    · cases e
  · cases e

/-! ### a def called by its value -/
structure FdA (P : Program) (w : World) (K : PySem.W.Frag) (mg : Str → Option Value) (base : Heap) (k : Nat) (a : Addr) (n : Nat) (f : List D → R D) : Prop where
  ex : ∃ (fd : FuncData) (ps : List Str), FnOk P w K mg base (L2.CX P w) k a fd ps (spD K n f) ∧ PySem.W.keepIn K (.ref a) = true ∧ Binds K fd ps []
theorem Fd.at {P : Program} {w : World} {K : PySem.W.Frag} {mg : Str → Option Value} {base : Heap} {k : Nat} {x : Str} {n : Nat} {f : List D → R D} {a : Addr} (h : Fd P w K mg base k x n f) (e : mg x = some (.ref a)) : FdA P w K mg base k a n f := by
  obtain ⟨a', fd, ps, hm, F, kp, b⟩ := h.ex
  rw [e] at hm
  cases hm
  exact ⟨fd, ps, F, kp, b⟩
def eCallV (T : Addr → Option (Nat × (List D → R D))) (ff : Env → R D) (as : Env → R (List D)) : Env → R D := fun ρ => (ff ρ).bind fun d => match d with
  | .ref a => (match T a with
    | some (n, f) => (as ρ).bind fun ds => if ds.length = n then f ds else .bad
    | none => .bad)
  | _ => .bad
theorem de_callV {T : Addr → Option (Nat × (List D → R D))} {k j : Nat} {fe e : Expr} {es : List Expr} {ff : Env → R D} {as : Env → R (List D)} (hT : ∀ a n f, T a = some (n, f) → FdA X.prog X.w X.K X.mg X.base k a n f) (hr : Room j X.A) (hk : k ≤ j) (tk : Takes X W)
    (hf : DE X W fe ff) (ha : DA X W (e :: es) as) (ht : eval (.Call fe (e :: es) [] pos) X.env = (do callWith pos (← eval fe X.env) [] (backTo pos (starEach (e :: es) X.env)) (backToKw pos (keywordEach [] X.env))) := by rfl)
    (he : starEach (e :: es) X.env = (false, eval e X.env) :: starEach es X.env := by rfl) (hpl : (backTo pos (starEach es X.env)).any (·.1) = false := by rfl) : DE X W (.Call fe (e :: es) [] pos) (eCallV T ff as) := by
  refine ⟨fun pins s σ H Q I hw => ?_⟩
  obtain ⟨F0, H0, F, ρ, S, q⟩ := hw
  unfold eCallV at q
  have main : tD X.K W ff σ H (fun y H1 => ∃ (a : Addr) (n : Nat) (f : List D → R D), y = .ref a ∧ T a = some (n, f) ∧ tDs X.K W as σ H1 fun vs H2 => spD X.K n f vs H2 Q (WE W σ)) := by
    cases ef : ff ρ with
    | bad => rw [ef] at q; exact q.elim
    | exc c => rw [ef] at q; exact tD_exc S ef q
    | ok d =>
      rw [ef, R.bind_ok] at q
      refine tD_ok S ef fun v F1 H1 g1 r1 => ?_
      cases r1 with
      | ref a =>
        simp only at q
        cases eT : T a with
        | none => simp only [eT] at q
        | some nf =>
          obtain ⟨n, f⟩ := nf
          simp only [eT] at q
          refine ⟨a, n, f, rfl, eT, ?_⟩
          cases ea : as ρ with
          | bad => rw [ea] at q; exact q.elim
          | exc c => rw [ea] at q; exact tDs_exc (S.go g1) ea fun F2 H2 g2 => q F2 H2 (g1.trans g2)
          | ok ds =>
            rw [ea, R.bind_ok] at q
            refine tDs_ok (S.go g1) ea fun vs F2 H2 g2 r2 => ?_
            by_cases hn : ds.length = n
            · rw [if_pos hn] at q
              refine ⟨F2, ds, g2.sub, ((S.go g1).go g2).tab, r2, hn, ?_⟩
              cases efd : f ds with
              | bad => rw [efd] at q; exact q.elim
              | exc c => rw [efd] at q; exact fun F3 H3 g3 => q F3 H3 ((g1.trans g2).trans g3)
              | ok d => rw [efd] at q; exact fun v F3 H3 g3 => q v F3 H3 ((g1.trans g2).trans g3)
            · rw [if_neg hn] at q
              exact q.elim
      | _ => exact q.elim
  refine PyProof.Rows.Call_ (thn (hf.run pins s σ H _ I main) fun u s1 ⟨y, H1, I1, ry, a, n, f, ey, eT, q1⟩ => ?_) ht
  subst ey
  obtain rfl : u = Value.ref a := ry
  obtain ⟨fd, ps, Fk, kp, hb⟩ := (hT a n f eT).ex
  refine PySem.W.callWith_K (h₀ := X.base) I1.ok.mod.kin kp (thn (ha.run pos pins s1 σ H1 _ I1 q1) fun us s2 ⟨vs, H2, I2, r, q2⟩ => ⟨I2.kIn, ?_⟩) he hpl
  exact run_fnS (E := WE W) Fk (hr.mono hk) hb (passAt tk σ) I2 r q2
end
end DL

set_option Elab.async false
set_option linter.all false
set_option maxRecDepth 100000
set_option maxHeartbeats 1000000
/-! The head's facts, by names: defs, constants, free names, exceptions, with what isinstance asks of an exception. -/
namespace DL
variable [Tabs]
open PySem PySem.Spec PyProof.Rows L2
def exB (K : PySem.W.Frag) (D : Addr) : Bool :=
  He.eqO (PySem.W.findIn K (.ref D) "__getattribute__") (some (some (.builtin "BaseException.__getattribute__"))) && (He.eqO (PySem.W.findIn K (.ref D) "__getattr__") (some none) &&
  (decide (PySem.W.subIn K (.ref D) (.type "BaseException") = some true) && (PySem.W.hasDictIn K D && (He.eqO (PySem.W.findIn K (.ref D) "__class__") (some (some (.builtin "object.__class__"))) &&
  (He.eqO (PySem.W.specialIn K (.builtin "object.__class__") "__get__") (some (some (.builtin "getset_descriptor.__get__"))) && (decide (PySem.W.takesIn K (.builtin "object.__class__") = some true) && decide (PySem.W.mroIn K D (.type "object") = some true)))))))
theorem exB_ok {K : PySem.W.Frag} {D : Addr} (h : exB K D = true) : ExcC K D := by
  obtain ⟨h1, h⟩ := He.ba h
  obtain ⟨h2, h⟩ := He.ba h
  obtain ⟨h3, h⟩ := He.ba h
  obtain ⟨h4, h⟩ := He.ba h
  obtain ⟨h5, h⟩ := He.ba h
  obtain ⟨h6, h⟩ := He.ba h
  obtain ⟨h7, h8⟩ := He.ba h
  exact ⟨He.eqO_ok h1, He.eqO_ok h2, of_decide_eq_true h3, h4, He.eqO_ok h5, He.eqO_ok h6, of_decide_eq_true h7, of_decide_eq_true h8⟩
/-- what the head tells of K -/
structure Told (fa : List He.Fa) (fn : List He.DefD) (ex : List Str) (K : PySem.W.Frag) : Prop where
  says : He.SaysD fa fn K
  exc : (ex.all fun x => exB K (He.ga K x)) = true
abbrev AlX : Type := He.AlD × Bool
def obsX (n : Nat) (fa : List He.Fa) (fn : List He.DefD) (ex : List Str) (g : Addr → Option Obj) : AlX :=
  let K := He.frG g (He.asD g n)
  (He.obsD fa fn K, ex.all fun x => exB K (He.ga K x))
def hookX (n : Nat) (fa : List He.Fa) (fn : List He.DefD) (ex : List Str) : PySem.W.Hook where
  α := AlX
  obs := fun s => obsX n fa fn ex s.heap.get?
  val := fun _ => (He.valD fn, true)
  says := fun _ h => ∃ K : PySem.W.Frag, K.In h ∧ Told fa fn ex K
  of := fun _ _ e => ⟨_, He.frG_in, ⟨congrArg Prod.fst e, congrArg Prod.snd e⟩⟩
  keeps := fun _ _ _ ⟨K, hK, c⟩ k => ⟨K, PySem.W.Frag.In.keeps hK k, c⟩
theorem obsX_eq {n : Nat} {fa : List He.Fa} {fn : List He.DefD} {ex : List Str} {g : Addr → Option Obj} {s : Shared} (h : ∀ a, g a = s.heap.get? a) : obsX n fa fn ex g = (hookX n fa fn ex).obs s := by
  have e : g = s.heap.get? := funext h
  rw [e] <;> rfl
theorem Told.ex {fa : List He.Fa} {fn : List He.DefD} {ex : List Str} {K : PySem.W.Frag} (T : Told fa fn ex K) (i : Nat) {x : Str} (h : ex[i]? = some x := by rfl) : ExcC K (He.ga K x) :=
  exB_ok (List.all_eq_true.mp T.exc x (List.mem_of_getElem? h))
theorem kit_of {K : PySem.W.Frag} {a c : Addr} {b : Bool} (h : PySem.W.exmOne K (.ref a) (.ref c) = some b) (h2 : PySem.W.exmOne K (.ref c) (.ref c) = some true) : PySem.W.kitOne K (.ref a) (.ref c) = some b := by
  unfold PySem.W.exmOne at h h2
  split at h
  · rename_i hs
    rw [if_pos hs] at h2
    unfold PySem.W.kitOne
    split
    · rename_i e
      have e := eq_of_beq e
      cases e
      rw [h2] at h
      exact h
    · exact h
  · cases h
/-- a def keeps its denotation -/
theorem fn_okD {P : Program} {w : World} {K : PySem.W.Frag} {mg : Str → Option Value} {base : Heap} {x qual : Str} {params : Arguments} {body : List Stmt} {sc : Scope} {a : Addr} {fd : FuncData} {N ps : List Str} {k : Nat} {g : SD} (F : FunD K x qual params body sc [] [] a fd) (S : FnScope N ps sc)
    (hbody : ∀ (X : Cx) (W : WX), X.prog = P → X.w = w → X.K = K → X.mg = mg → X.base = base → Cok X W N sc k → DSs X W body g) : FnOk P w K mg base (L2.CX P w) (k + 1) a fd ps (spD K ps.length (fnD N.length g)) := by
  refine F.ok S (fun vs H Q E ⟨F, ds, _, _, r, hl, _⟩ => r.length.trans hl) fun cdv A outer s H vs Q E hr h => ?_
  obtain ⟨F, ds, sub, tb, r, hl, q⟩ := h
  have C : Cok (cxOf (L2.CX P w) P w K mg base N qual sc a cdv A outer s H E) (fun cls d _ H => E cls d H) N sc k := ⟨rfl, rfl, rfl, hr, takes_of rfl rfl rfl rfl, passes_of rfl, fun _ => rfl, rfl, rfl⟩
  refine ⟨_, hbody _ _ rfl rfl rfl rfl rfl C, F, H, F, startE N.length ds, start_rep sub tb r, ?_⟩
  unfold fnD at q
  show Wants K _ _ F H F (g (startE N.length ds))
  cases eg : g (startE N.length ds) with
  | none => rw [eg] at q; exact q.elim
  | some o =>
    rw [eg] at q
    cases o with
    | nx ρ => exact fun σ' F' H' e S' => q .non F' H' S'.grow .non
    | rt d => exact fun v F' H' g r => q v F' H' g r
    | xc c ρ => exact fun σ' F' H' e S' => q F' H' S'.grow
    | br ρ => exact q.elim
    | ct ρ => exact q.elim
theorem fd_of {P : Program} {w : World} {K : PySem.W.Frag} {mg : Str → Option Value} {base : Heap} {x qual : Str} {params : Arguments} {body : List Stmt} {sc : Scope} {a : Addr} {fd : FuncData} {ps : List Str} {k n : Nat} {f : List D → R D} (F : FunD K x qual params body sc [] [] a fd) (hm : mg x = some (.ref a)) (hb : Binds K fd ps []) (h : FnOk P w K mg base (L2.CX P w) k a fd ps (spD K n f)) : Fd P w K mg base k x n f :=
  ⟨a, fd, ps, hm, h, F.kp, hb⟩
/-- the end: the law's denotation is True at every script -/
theorem walkD {l : PySem.W.OpenLaw} {n k : Nat} {q : Program} {loose : List Str} {XP : (Str → Option Value) → Heap → Prop} {YP : World → Heap → Prop} {d : DefRec} {x : Str}
    (hT : Tabs.all = []) (hn : l.most = some n) (hn2 : n ≤ sizeLine) (hdf : d.params.defaults = []) (hr : Room k callerA)
    (F : ∀ (w : World) (mg : Str → Option Value) (fa : Addr) (h : Heap), YP w h → h.Ns mainGlobals mg → mg d.name = some (.ref fa) →
      ∃ (K : PySem.W.Frag) (fd : FuncData) (m : List D → R D), K.In h ∧ (∀ (s : Shared) (u : Value), BindsTo s fd ⟨[u], []⟩ [(x, u)]) ∧ (∀ base : Heap, FnOk l.prog w K mg base (L2.CX l.prog w) k fa fd [x] (spD K 1 m)) ∧
        ∀ ns : List Int, ns.length ≤ n → m [.scr ns] = .ok (.bl true)) : PySem.W.WalkO q loose XP YP l.row.toRowW d [] (fun f vs => PySem.call f vs) := by
  refine Att.attach_call hn hdf fun w s₀ s₁ mg mb fa o pm cd doc a vs ns G Y ho hd hcd hmg hobj hints hlen hg => ?_
  obtain ⟨K, fd, m, KX, hb, hF, ht⟩ := F w mg fa _ Y G.T.g hmg
  refine law_call KX G.T.g G.T.b G.T.builtins G.T.nolimit hg hobj hints (Nat.le_trans hlen hn2) hr (fun base _ _ => hF base) hb (fun H hO hS => ⟨H, [.scr ns], Evl.Ex.refl H, by rw [hT]; exact fun P h => absurd h (by simp), .cons (.scr hS) .nil, rfl, ?_⟩) fun H e s' h => ?_
  · rw [ht ns hlen]
    intro v F' H' g r
    cases r
    rfl
  · obtain ⟨_, _, _, _, _, _, _, _, _, _, _, hE⟩ := h
    exact hE.2
end DL

set_option Elab.async false
set_option linter.all false
set_option maxRecDepth 100000
set_option maxHeartbeats 1000000
/-! The rules as the printed derivations use them: everything that is asked of the place stands in C. -/
namespace DL
variable [Tabs]
open PySem L2
open Evl (Ex)
open RZ (ItzT iZipA pi_zipA)

def visB (sc : Scope) (x : Str) : Bool := match sc.names.lookup x with
  | some .local => true
  | some .cell => true
  | some .free => true
  | _ => false
def locB (sc : Scope) (x : Str) : Bool := match sc.names.lookup x with
  | some .local => true
  | some .cell => true
  | _ => false
def isLoc (sc : Scope) (x : Str) : Bool := match sc.names.lookup x with
  | some .local => true
  | _ => false
def glB (sc : Scope) (x : Str) : Bool := match sc.names.lookup x with
  | some .globalImplicit => true
  | _ => false
theorem vis_of {sc : Scope} {x : Str} (h : visB sc x = true) : Vis sc x := by
  unfold visB at h
  split at h
  · exact .inl (by assumption)
  · exact .inr (.inl (by assumption))
  · exact .inr (.inr (by assumption))
  · cases h
theorem loc_of {sc : Scope} {x : Str} (h : locB sc x = true) : Loc sc x := by
  unfold locB at h
  split at h
  · exact .inl (by assumption)
  · exact .inr (by assumption)
  · cases h
theorem isLoc_of {sc : Scope} {x : Str} (h : isLoc sc x = true) : sc.names.lookup x = some .local := by
  unfold isLoc at h
  split at h
  · assumption
  · cases h
theorem gl_of {sc : Scope} {x : Str} (h : glB sc x = true) : sc.names.lookup x = some .globalImplicit := by
  unfold glB at h
  split at h
  · assumption
  · cases h
/-- a place: names, scope, no exception handled, room for k, exceptions go to W -/
structure Ctx (P : Program) (w : World) (K : PySem.W.Frag) (mg : Str → Option Value) (base : Heap) (X : Cx) (W : WX) (N : List Str) (sc : Scope) (k : Nat) : Prop where
  prog : X.prog = P
  wd : X.w = w
  K : X.K = K
  mg : X.mg = mg
  bs : X.base = base
  hN : X.N = N
  hsc : X.env.scope = sc
  nd : N.Nodup
  calm : X.calm = true
  room : Room k X.A
  takes : Takes X W
section
variable {P : Program} {w : World} {K : PySem.W.Frag} {mg : Str → Option Value} {base : Heap} {X : Cx} {W : WX} {N : List Str} {sc : Scope} {k : Nat} {pos : Pos}
theorem Cok.ctx (C : Cok X W N sc k) (h1 : X.prog = P) (h2 : X.w = w) (h3 : X.K = K) (h4 : X.mg = mg) (h5 : X.base = base) (nd : N.Nodup) : Ctx P w K mg base X W N sc k := ⟨h1, h2, h3, h4, h5, C.N, C.sc, nd, C.calm, C.room, C.takes⟩
theorem Ctx.at (C : Ctx P w K mg base X W N sc k) {i : Nat} {x : Str} (h : N[i]? = some x) : X.N[i]? = some x := by rw [C.hN]; exact h
theorem Ctx.vis (C : Ctx P w K mg base X W N sc k) {x : Str} (h : visB sc x = true) : Vis X.env.scope x := by rw [C.hsc]; exact vis_of h
theorem Ctx.loc (C : Ctx P w K mg base X W N sc k) {x : Str} (h : locB sc x = true) : Loc X.env.scope x := by rw [C.hsc]; exact loc_of h
theorem Ctx.isLoc (C : Ctx P w K mg base X W N sc k) {x : Str} (h : isLoc sc x = true) : X.env.scope.names.lookup x = some .local := by rw [C.hsc]; exact isLoc_of h
theorem Ctx.gl (C : Ctx P w K mg base X W N sc k) {x : Str} (h : glB sc x = true) : Gl X x := by
  show X.env.scope.names.lookup x = some .globalImplicit
  rw [C.hsc]
  exact gl_of h
theorem Ctx.nd' (C : Ctx P w K mg base X W N sc k) : X.N.Nodup := by rw [C.hN]; exact C.nd
theorem Ctx.hu (C : Ctx P w K mg base X W N sc k) : X.A.units + 65 < cLine := by have := C.room.un; omega
theorem Ctx.no (C : Ctx P w K mg base X W N sc k) {x : Str} (h : mg x = none) : X.mg x = none := by rw [C.mg]; exact h
theorem Ctx.mgs (C : Ctx P w K mg base X W N sc k) {x : Str} {u : Value} (h : mg x = some u) : X.mg x = some u := by rw [C.mg]; exact h
theorem Ctx.fd (C : Ctx P w K mg base X W N sc k) {j n : Nat} {x : Str} {f : List D → R D} (h : Fd P w K mg base j x n f) : Fd X.prog X.w X.K X.mg X.base j x n f := by
  rw [C.prog, C.wd, C.K, C.mg, C.bs]; exact h
theorem Ctx.fda (C : Ctx P w K mg base X W N sc k) {j n : Nat} {a : Addr} {f : List D → R D} (h : FdA P w K mg base j a n f) : FdA X.prog X.w X.K X.mg X.base j a n f := by
  rw [C.prog, C.wd, C.K, C.mg, C.bs]; exact h
theorem Ctx.blk (C : Ctx P w K mg base X W N sc k) (s : Shared) (H : Hp) (scope : Scope) (cl : List (Str × Addr)) (a : Addr) (fp : List Addr) : Ctx P w K mg base (X.blk s H scope (compEnvC scope cl a X.env) fp) WN N (relS scope sc) k :=
  ⟨C.prog, C.wd, C.K, C.mg, C.bs, C.hN, by rw [← C.hsc]; rfl, C.nd, C.calm, C.room, takes0⟩
/-- every block's place -/
theorem Ctx.all (C : Ctx P w K mg base X W N sc k) {scope : Scope} {p : Cx → Prop} (h : ∀ Y, Ctx P w K mg base Y WN N (relS scope sc) k → (∀ x, (scope.names.lookup x == some NameKind.cell) = true → Y.fn x = true) → p Y) : AllB X scope p := fun s H a cl fp => h _ (C.blk s H scope cl a fp) fun _ e => e
theorem Ctx.ok (C : Ctx P w K mg base X W N sc k) {scope : Scope} {own : List (Str × Nat)} (h : blkC N sc scope own = true) : BlkOk X.N X.env.scope scope own := by
  rw [C.hN, C.hsc]
  exact blkOk_by h

/-! ### expressions -/
theorem xv (C : Ctx P w K mg base X W N sc k) (i : Nat) {x : Str} (h : N[i]? = some x) (hv : visB sc x = true) (hd : (x == ("__debug__" : Str)) = false := by decide) (hcd : (x == ("__classdict__" : Str)) = false := by decide) : DE X W (.Name x pos) (eVar i) := de_var (C.at h) (C.vis hv) hd hcd
theorem xcall (C : Ctx P w K mg base X W N sc k) {j n : Nat} {x : Str} {f : List D → R D} {e : Expr} {es : List Expr} {p : Pos} {as : Env → R (List D)} (h : Fd P w K mg base j x n f) (hk : j ≤ k) (hg : glB sc x = true)
    (ha : DA X W (e :: es) as) (hlen : ∀ ρ ds, as ρ = .ok ds → ds.length = n) (hn : (e :: es).length = n := by rfl) (hdb : (x == ("__debug__" : Str)) = false := by decide) (he : starEach (e :: es) X.env = (false, eval e X.env) :: starEach es X.env := by rfl) (hpl : (backTo pos (starEach es X.env)).any (·.1) = false := by rfl) :
    DE X W (.Call (.Name x p) (e :: es) [] pos) (eCall f as) := de_call (C.fd h) C.room hk C.takes (C.gl hg) ha hn hdb he hpl hlen
theorem xint (C : Ctx P w K mg base X W N sc k) {x : Str} {i : Int} (h : ∃ t, mg x = some (.int i t)) (hg : glB sc x = true) (hd : (x == ("__debug__" : Str)) = false := by decide) : DE X W (.Name x pos) (eC (.int i)) := by
  obtain ⟨t, hm⟩ := h
  exact de_glob (v := .int i) (C.gl hg) (C.mgs hm) ⟨t, rfl⟩ (fun _ => .int i) hd
/-- a def or a class of the top as a value -/
theorem xref (C : Ctx P w K mg base X W N sc k) {x : Str} {a : Addr} (h : mg x = some (.ref a)) (hg : glB sc x = true) (hd : (x == ("__debug__" : Str)) = false := by decide) : DE X W (.Name x pos) (eC (.ref a)) :=
  de_glob (v := .ref a) (C.gl hg) (C.mgs h) rfl (fun _ => .ref a) hd
/-- a built-in class as a value -/
theorem xty (C : Ctx P w K mg base X W N sc k) {x : Str} {T : String} (hm : mg x = none) (hv : bootBuiltins x = some (.type T)) (hg : glB sc x = true) (hn : x ≠ "__name__" := by decide) (hd : (x == ("__debug__" : Str)) = false := by decide) : DE X W (.Name x pos) (eC (.ty T)) := de_bltn (v := V.ty T) (C.gl hg) (C.no hm) hv rfl (fun _ => .ty T) hn hd
section
variable {e : Expr} {es : List Expr} {p : Pos} {as : Env → R (List D)}
theorem xlen (C : Ctx P w K mg base X W N sc k) (hm : mg "len" = none) (hg : glB sc "len" = true) (ha : DA X W (e :: es) as) (he : starEach (e :: es) X.env = (false, eval e X.env) :: starEach es X.env := by rfl) (hpl : (backTo pos (starEach es X.env)).any (·.1) = false := by rfl) :
    DE X W (.Call (.Name "len" p) (e :: es) [] pos) (eArgs gLen as) := de_callB (call_len_seq.or call_len_str) cs_len (C.gl hg) (C.no hm) (by decide +kernel) ha (he := he) (hpl := hpl)
theorem xall (C : Ctx P w K mg base X W N sc k) (hm : mg "all" = none) (hg : glB sc "all" = true) (ha : DA X W (e :: es) as) (he : starEach (e :: es) X.env = (false, eval e X.env) :: starEach es X.env := by rfl) (hpl : (backTo pos (starEach es X.env)).any (·.1) = false := by rfl) :
    DE X W (.Call (.Name "all" p) (e :: es) [] pos) (eArgs gAll as) := de_callB (cr_all C.calm) cs_all (C.gl hg) (C.no hm) (by decide +kernel) ha (he := he) (hpl := hpl)
theorem xany (C : Ctx P w K mg base X W N sc k) (hm : mg "any" = none) (hg : glB sc "any" = true) (ha : DA X W (e :: es) as) (he : starEach (e :: es) X.env = (false, eval e X.env) :: starEach es X.env := by rfl) (hpl : (backTo pos (starEach es X.env)).any (·.1) = false := by rfl) :
    DE X W (.Call (.Name "any" p) (e :: es) [] pos) (eArgs gAny as) := de_callB (cr_any C.calm) cs_any (C.gl hg) (C.no hm) (by decide +kernel) ha (he := he) (hpl := hpl)
theorem xsum (C : Ctx P w K mg base X W N sc k) (hm : mg "sum" = none) (hg : glB sc "sum" = true) (ha : DA X W (e :: es) as) (he : starEach (e :: es) X.env = (false, eval e X.env) :: starEach es X.env := by rfl) (hpl : (backTo pos (starEach es X.env)).any (·.1) = false := by rfl) :
    DE X W (.Call (.Name "sum" p) (e :: es) [] pos) (eArgs gSum as) := de_callB (cr_sum C.calm) cs_sum (C.gl hg) (C.no hm) (by decide +kernel) ha (he := he) (hpl := hpl)
theorem xmin (C : Ctx P w K mg base X W N sc k) (hm : mg "min" = none) (hg : glB sc "min" = true) (ha : DA X W (e :: es) as) (he : starEach (e :: es) X.env = (false, eval e X.env) :: starEach es X.env := by rfl) (hpl : (backTo pos (starEach es X.env)).any (·.1) = false := by rfl) :
    DE X W (.Call (.Name "min" p) (e :: es) [] pos) (eArgs gMin as) := de_callB ((cr_min C.calm).or (call_min2 C.calm)) cs_min (C.gl hg) (C.no hm) (by decide +kernel) ha (he := he) (hpl := hpl)
theorem xmax (C : Ctx P w K mg base X W N sc k) (hm : mg "max" = none) (hg : glB sc "max" = true) (ha : DA X W (e :: es) as) (he : starEach (e :: es) X.env = (false, eval e X.env) :: starEach es X.env := by rfl) (hpl : (backTo pos (starEach es X.env)).any (·.1) = false := by rfl) :
    DE X W (.Call (.Name "max" p) (e :: es) [] pos) (eArgs gMax as) := de_callB ((cr_max C.calm).or (call_max2 C.calm)) cs_max (C.gl hg) (C.no hm) (by decide +kernel) ha (he := he) (hpl := hpl)
theorem xisi (C : Ctx P w K mg base X W N sc k) (hm : mg "isinstance" = none) (hg : glB sc "isinstance" = true) (ha : DA X W (e :: es) as) (he : starEach (e :: es) X.env = (false, eval e X.env) :: starEach es X.env := by rfl) (hpl : (backTo pos (starEach es X.env)).any (·.1) = false := by rfl) :
    DE X W (.Call (.Name "isinstance" p) (e :: es) [] pos) (eArgs gIsi as) := de_callB call_isi cs_isi (C.gl hg) (C.no hm) (by decide +kernel) ha (he := he) (hpl := hpl)
theorem xtuple (C : Ctx P w K mg base X W N sc k) (hm : mg "tuple" = none) (hg : glB sc "tuple" = true) (ha : DA X W (e :: es) as) (he : starEach (e :: es) X.env = (false, eval e X.env) :: starEach es X.env := by rfl) (hpl : (backTo pos (starEach es X.env)).any (·.1) = false := by rfl) :
    DE X W (.Call (.Name "tuple" p) (e :: es) [] pos) (eArgs gTuple as) := de_callTy call_tuple_of cs_tuple (C.gl hg) (C.no hm) (by decide +kernel) ha (he := he) (hpl := hpl)
theorem xlist (C : Ctx P w K mg base X W N sc k) (hm : mg "list" = none) (hg : glB sc "list" = true) (ha : DA X W (e :: es) as) (he : starEach (e :: es) X.env = (false, eval e X.env) :: starEach es X.env := by rfl) (hpl : (backTo pos (starEach es X.env)).any (·.1) = false := by rfl) :
    DO X W (.Call (.Name "list" p) (e :: es) [] pos) (oCall gList as) := do_callTy call_list_of co_list (C.gl hg) (C.no hm) (by decide +kernel) ha (he := he) (hpl := hpl)
theorem xsortedI (C : Ctx P w K mg base X W N sc k) (hm : mg "sorted" = none) (hg : glB sc "sorted" = true) (ha : DA X W (e :: es) as) (he : starEach (e :: es) X.env = (false, eval e X.env) :: starEach es X.env := by rfl) (hpl : (backTo pos (starEach es X.env)).any (·.1) = false := by rfl) :
    DO X W (.Call (.Name "sorted" p) (e :: es) [] pos) (oCall gSortedI as) := do_callB cr_sortedI co_sortedI (C.gl hg) (C.no hm) (by decide +kernel) ha (he := he) (hpl := hpl)
theorem xsortedD (C : Ctx P w K mg base X W N sc k) (hm : mg "sorted" = none) (hg : glB sc "sorted" = true) (ha : DA X W (e :: es) as) (he : starEach (e :: es) X.env = (false, eval e X.env) :: starEach es X.env := by rfl) (hpl : (backTo pos (starEach es X.env)).any (·.1) = false := by rfl) :
    DO X W (.Call (.Name "sorted" p) (e :: es) [] pos) (oCall gSortedD as) := do_callB (call_sortedDI C.calm) co_sortedD (C.gl hg) (C.no hm) (by decide +kernel) ha (he := he) (hpl := hpl)
end
theorem xrange1 (C : Ctx P w K mg base X W N sc k) {a : Expr} {f : Env → R D} {p p2 pos2 : Pos} (hm : mg "list" = none) (hm2 : mg "range" = none) (hg : glB sc "list" = true) (hg2 : glB sc "range" = true) (ha : DE X W a f)
    (na : starEach [a] X.env = (false, eval a X.env) :: starEach [] X.env := by rfl) (nb : starEach [.Call (.Name "range" p2) [a] [] pos2] X.env = (false, eval (.Call (.Name "range" p2) [a] [] pos2) X.env) :: starEach [] X.env := by rfl) : DO X W (.Call (.Name "list" p) [.Call (.Name "range" p2) [a] [] pos2] [] pos) (oRange (aCons f aNil)) :=
  do_range1 C.calm (C.gl hg) (C.no hm) (C.gl hg2) (C.no hm2) ha na nb
theorem xsrtSet (C : Ctx P w K mg base X W N sc k) {a : Expr} {f : Env → R D} {p p2 q2 : Pos} (hm : mg "sorted" = none) (hm2 : mg "set" = none) (hg : glB sc "sorted" = true) (hg2 : glB sc "set" = true) (ha : DE X W a f)
    (he : starEach [a] X.env = (false, eval a X.env) :: starEach [] X.env := by rfl) (he2 : starEach [.Call (.Name "set" p2) [a] [] q2] X.env = (false, eval (.Call (.Name "set" p2) [a] [] q2) X.env) :: starEach [] X.env := by rfl) :
    DO X W (.Call (.Name "sorted" p) [.Call (.Name "set" p2) [a] [] q2] [] pos) (oSrtSet f) := do_srtSet C.calm (C.gl hg) (C.no hm) (C.gl hg2) (C.no hm2) ha (na := he)
theorem xlc (C : Ctx P w K mg base X W N sc k) (own : List (Str × Nat)) (is : List Nat) {elt tg iter : Expr} {ifs : List Expr} {scope : Scope} {f : Env → R (List D)} {g : D → Env → Option Env} {t : Env → R Bool} {e : Env → R D} (hi : DIg X W tg iter f) (ok : blkC N sc scope own = true)
    (h : ∀ Y, Ctx P w K mg base Y WN N (relS scope sc) k → (∀ x, (scope.names.lookup x == some NameKind.cell) = true → Y.fn x = true) → DG Y is tg g ∧ DTs Y WN ifs t ∧ DE Y WN elt e) (his : ∀ i ∈ is, i ∈ own.map (·.2) := by decide) (hs : ∀ x, foldedSetIterable iter X.env x = pure x := by intro _; rfl) :
    DO X W (.ListComp elt [⟨tg, iter, ifs, 0⟩] scope pos) (oLc f g t e (own.map (·.2))) :=
  do_lc C.calm C.nd' hi (C.ok ok) (C.all fun Y c q => (h Y c q).1) (C.all fun Y c q => (h Y c q).2.1) (C.all fun Y c q => (h Y c q).2.2) his hs
theorem ylc (C : Ctx P w K mg base X W N sc k) (j : Nat) (own : List (Str × Nat)) (is : List Nat) {y : Str} {py : Pos} {spos : Pos} {elt tg iter : Expr} {ifs : List Expr} {scope : Scope} {f : Env → R (List D)} {g : D → Env → Option Env} {t : Env → R Bool} {e : Env → R D} (hy : N[j]? = some y) (hyl : isLoc sc y = true)
    (hsw : ∀ env : PySem.Env, env.scope = sc → swapsWith (.ListComp elt [⟨tg, iter, ifs, 0⟩] scope pos) (some (.Name y py)) spos.line env = pure true) (hi : DIg X W tg iter f) (ok : blkC N sc scope own = true)
    (h : ∀ Y, Ctx P w K mg base Y WN N (relS scope sc) k → (∀ x, (scope.names.lookup x == some NameKind.cell) = true → Y.fn x = true) → DG Y is tg g ∧ DTs Y WN ifs t ∧ DE Y WN elt e) (his : ∀ i ∈ is, i ∈ own.map (·.2) := by decide) (hs : ∀ x, foldedSetIterable iter X.env x = pure x := by intro _; rfl) :
    DS X W (.Assign [.Name y py] (.ListComp elt [⟨tg, iter, ifs, 0⟩] scope pos) spos) (sOwn j (oLc f g t e (own.map (·.2)))) :=
  ds_ownLc C.calm C.nd' (C.at hy) (C.isLoc hyl) (hsw _ C.hsc) hi (C.ok ok) (C.all fun Y c q => (h Y c q).1) (C.all fun Y c q => (h Y c q).2.1) (C.all fun Y c q => (h Y c q).2.2) his hs
theorem xdc2 (C : Ctx P w K mg base X W N sc k) (own : List (Str × Nat)) (is is1 vs1 : List Nat) {kx vx tg iter tg1 iter1 : Expr} {scope : Scope} {f f1 : Env → R (List D)} {g g1 : D → Env → Option Env} {ek ev : Env → R D} (hi : DIg X W tg iter f) (ok : blkC N sc scope own = true)
    (h : ∀ Y, Ctx P w K mg base Y WN N (relS scope sc) k → (∀ x, (scope.names.lookup x == some NameKind.cell) = true → Y.fn x = true) → DG Y is tg g ∧ DI Y WN tg1 iter1 f1 ∧ DG Y is1 tg1 g1 ∧ DE Y WN kx ek ∧ DE Y WN vx ev) (t0 : Tame g) (t1 : Tame g1)
    (hv : ∀ i ∈ vs1, i ∈ own.map (·.2) := by decide) (his : ∀ i ∈ is, i ∈ own.map (·.2) := by decide) (his1 : ∀ i ∈ is1, i ∈ vs1 := by decide) (hs : ∀ x, foldedSetIterable iter X.env x = pure x := by intro _; rfl) (hs1 : ∀ env x, foldedSetIterable iter1 env x = pure x := by intro _ _; rfl) :
    DO X W (DC2 kx vx tg iter tg1 iter1 scope pos) (oDc2 f g f1 g1 ek ev (own.map (·.2)) vs1) :=
  do_dc2 C.calm C.nd' hi (C.ok ok) (C.all fun Y c q => (h Y c q).1) (C.all fun Y c q => (h Y c q).2.1) (C.all fun Y c q => (h Y c q).2.2.1) (C.all fun Y c q => (h Y c q).2.2.2.1) (C.all fun Y c q => (h Y c q).2.2.2.2) t0 t1 hv his his1 hs hs1
theorem xindex (C : Ctx P w K mg base X W N sc k) {o a : Expr} {apos : Pos} {fo : Env → R D} {fa : Env → R (List D)} (ho : DE X W o fo) (ha : DA X W [a] fa) (hl : ∀ ρ ds, fa ρ = .ok ds → ds.length = 1)
    (hbase : attributeBase o "index" X.env (eval o X.env) = eval o X.env := by rfl)
    (hfew : ((backTo pos (starEach [a] X.env)).all (fun x => !x.1) && (backToKw pos (keywordEach [] X.env)).all (fun x => x.1.isSome)
      && decide ([a].length + ([] : List Keyword).length + (if ([] : List Keyword).isEmpty then 0 else 1) < 30)) = true := by rfl)
    (hline : (apos.endLine == pos.line) = true := by rfl) (hs : starEach [a] X.env = (false, eval a X.env) :: starEach [] X.env := by rfl) (hplain : (backTo pos (starEach [] X.env)).any (·.1) = false := by rfl) :
    DE X W (.Call (.Attribute o "index" apos) [a] [] pos) (eIndex fo fa) :=
  de_index (pe_bm PySem.F.plainAttrs_list PySem.F.slot_list_index PySem.F.type_list_index (mt_indexD C.hu) ho ha hbase hfew hline hs hplain) hl
/-! ### iterables -/
theorem irange1 (C : Ctx P w K mg base X W N sc k) {tg a : Expr} {f : Env → R (List D)} {p : Pos} (hm : mg "range" = none) (hg : glB sc "range" = true) (ha : DA X W [a] f) (hl : ∀ ρ ds, f ρ = .ok ds → ds.length = 1) (hs : starEach [a] X.env = [(false, eval a X.env)] := by rfl) : DI X W tg (.Call (.Name "range" p) [a] [] pos) (iRange f) := di_range1 (C.gl hg) (C.no hm) ha hs hl
theorem irange2 (C : Ctx P w K mg base X W N sc k) {tg a b : Expr} {f : Env → R (List D)} {p : Pos} (hm : mg "range" = none) (hg : glB sc "range" = true) (ha : DA X W [a, b] f) (hl : ∀ ρ ds, f ρ = .ok ds → ds.length = 2) (hs : starEach [a, b] X.env = [(false, eval a X.env), (false, eval b X.env)] := by rfl) (hs2 : starEach [b] X.env = [(false, eval b X.env)] := by rfl) : DI X W tg (.Call (.Name "range" p) [a, b] [] pos) (iRange f) := di_range2 (C.gl hg) (C.no hm) ha hs hs2 hl
theorem izip (C : Ctx P w K mg base X W N sc k) {e e2 : Expr} {f : Env → R (List D)} {p tpos : Pos} {elts : List Expr} {kk : Nat} (hm : mg "zip" = none) (hg : glB sc "zip" = true) (ha : DA X W [e, e2] f) (hl : ∀ ρ ds, f ρ = .ok ds → ds.length = 2)
    (hs : starEach [e, e2] X.env = (false, eval e X.env) :: starEach [e2] X.env := by rfl) (hpl : (backTo pos (starEach [e2] X.env)).any (·.1) = false := by rfl) : DI X W (.Tuple elts kk tpos) (.Call (.Name "zip" p) [e, e2] [] pos) (iZipD f) := di_zip (pi_zipA (C.gl hg) (C.no hm) ha hs hpl) hl
theorem ienum (C : Ctx P w K mg base X W N sc k) {e : Expr} {f : Env → R (List D)} {p tpos : Pos} {elts : List Expr} {kk : Nat} (hm : mg "enumerate" = none) (hg : glB sc "enumerate" = true) (ha : DA X W [e] f) (hl : ∀ ρ ds, f ρ = .ok ds → ds.length = 1)
    (hs : starEach [e] X.env = [(false, eval e X.env)] := by rfl) : DI X W (.Tuple elts kk tpos) (.Call (.Name "enumerate" p) [e] [] pos) (iEnumD f) := di_enumT (pi_enumT (C.gl hg) (C.no hm) ha hs) hl
/-! ### statements -/
theorem yset (C : Ctx P w K mg base X W N sc k) (i : Nat) {x : Str} {e : Expr} {p : Pos} {f : Env → R D} (h : N[i]? = some x) (hx : locB sc x = true) (hf : X.fn x = true ∨ isLoc sc x = true) (he : DE X W e f) (hs : swapsWith e (some (.Name x p)) pos.line X.env = pure false := by rfl) : DS X W (.Assign [.Name x p] e pos) (sSet i f) :=
  ds_set C.nd' (C.at h) (C.loc hx) he hs (hf.imp id C.isLoc)
theorem yown (C : Ctx P w K mg base X W N sc k) (i : Nat) {x : Str} {e : Expr} {p : Pos} {f : Env → R Ow} (h : N[i]? = some x) (hx : locB sc x = true) (hf : X.fn x = true ∨ isLoc sc x = true) (he : DO X W e f) (hs : swapsWith e (some (.Name x p)) pos.line X.env = pure false := by rfl) : DS X W (.Assign [.Name x p] e pos) (sOwn i f) :=
  ds_own C.nd' (C.at h) (C.loc hx) he hs (hf.imp id C.isLoc)
theorem gname (C : Ctx P w K mg base X W N sc k) (i : Nat) {x : Str} (h : N[i]? = some x) (hx : locB sc x = true) (hf : X.fn x = true ∨ isLoc sc x = true) : DG X [i] (.Name x pos) (gSet i) := dg_name C.nd' (C.at h) (C.loc hx) (hf.imp id C.isLoc)
theorem pgname (C : Ctx P w K mg base X W N sc k) (i : Nat) {x : Str} (h : N[i]? = some x) (hx : locB sc x = true) (hf : X.fn x = true ∨ isLoc sc x = true) : PG X (.Name x pos) (gName i) := pg_name C.nd' (C.at h) (C.loc hx) (hf.imp id C.isLoc)
theorem ypar2 (C : Ctx P w K mg base X W N sc k) (i j : Nat) {x y : Str} {a b : Expr} {f : Env → R (List Slot)} {px py pt : Pos} {kt k2 pt2} (hi : N[i]? = some x) (hj : N[j]? = some y) (hij : i ≠ j) (hx : isLoc sc x = true) (hy : isLoc sc y = true) (ha : DM X W [a, b] f)
    (hw : ∀ env : PySem.Env, env.scope = sc → swappedStores [.Tuple [.Name x px, .Name y py] kt pt] (.Tuple [a, b] k2 pt2) env = pure (some [x, y]))
    (hs : swapsWithSole [.Tuple [.Name x px, .Name y py] kt pt] (.Tuple [a, b] k2 pt2) pos.line X.env = pure false := by rfl) :
    DS X W (.Assign [.Tuple [.Name x px, .Name y py] kt pt] (.Tuple [a, b] k2 pt2) pos) (sPar [i, j] f) := ds_par2 C.calm C.nd' (C.at hi) (C.at hj) hij (C.isLoc hx) (C.isLoc hy) ha (hw _ C.hsc) hs
theorem ypar3 (C : Ctx P w K mg base X W N sc k) (i j l : Nat) {x y z : Str} {a b c : Expr} {f : Env → R (List Slot)} {px py pz pt : Pos} {kt k2 pt2} (hi : N[i]? = some x) (hj : N[j]? = some y) (hl : N[l]? = some z) (hij : i ≠ j) (hil : i ≠ l) (hjl : j ≠ l) (hx : isLoc sc x = true) (hy : isLoc sc y = true) (hz : isLoc sc z = true) (ha : DM X W [a, b, c] f)
    (hw : ∀ env : PySem.Env, env.scope = sc → swappedStores [.Tuple [.Name x px, .Name y py, .Name z pz] kt pt] (.Tuple [a, b, c] k2 pt2) env = pure (some [x, y, z]))
    (hs : swapsWithSole [.Tuple [.Name x px, .Name y py, .Name z pz] kt pt] (.Tuple [a, b, c] k2 pt2) pos.line X.env = pure false := by rfl) :
    DS X W (.Assign [.Tuple [.Name x px, .Name y py, .Name z pz] kt pt] (.Tuple [a, b, c] k2 pt2) pos) (sPar [i, j, l] f) := ds_par3 C.calm C.nd' (C.at hi) (C.at hj) (C.at hl) hij hil hjl (C.isLoc hx) (C.isLoc hy) (C.isLoc hz) ha (hw _ C.hsc) hs
theorem yapp (C : Ctx P w K mg base X W N sc k) (i : Nat) {x : Str} {a : Expr} {apos cpos p : Pos} {f : Env → R D} (h : N[i]? = some x) (hv : visB sc x = true) (ha : DE X W a f)
    (hd : (x == ("__debug__" : Str)) = false := by decide) (hcd : (x == ("__classdict__" : Str)) = false := by decide)
    (hbase : attributeBase (.Name x p) "append" X.env (eval (.Name x p) X.env) = eval (.Name x p) X.env := by rfl)
    (hfew : ((backTo cpos (starEach [a] X.env)).all (fun x => !x.1) && (backToKw cpos (keywordEach [] X.env)).all (fun x => x.1.isSome)
      && decide ([a].length + ([] : List Keyword).length + (if ([] : List Keyword).isEmpty then 0 else 1) < 30)) = true := by rfl)
    (hline : (apos.endLine == cpos.line) = true := by rfl) (hst : starEach [a] X.env = (false, eval a X.env) :: starEach [] X.env := by rfl) (hplain : (backTo cpos (starEach [] X.env)).any (·.1) = false := by rfl)
    (hs : swapsWith (.Call (.Attribute (.Name x p) "append" apos) [a] [] cpos) none pos.line X.env = pure false := by rfl) :
    DS X W (.Expr (.Call (.Attribute (.Name x p) "append" apos) [a] [] cpos) pos) (sApp i f) :=
  ds_app (ps_expr (pe_bm PySem.F.plainAttrs_list PySem.F.slot_list_append PySem.F.type_list_append mt_append (pe_var (C.at h) (C.vis hv) hd hcd) (pa_cons ha pa_nil hst) hbase hfew hline hst hplain) hs)
theorem yext (C : Ctx P w K mg base X W N sc k) (i : Nat) {x : Str} {a : Expr} {apos cpos p : Pos} {f : Env → R D} (h : N[i]? = some x) (hv : visB sc x = true) (ha : DE X W a f)
    (hd : (x == ("__debug__" : Str)) = false := by decide) (hcd : (x == ("__classdict__" : Str)) = false := by decide)
    (hbase : attributeBase (.Name x p) "extend" X.env (eval (.Name x p) X.env) = eval (.Name x p) X.env := by rfl)
    (hfew : ((backTo cpos (starEach [a] X.env)).all (fun x => !x.1) && (backToKw cpos (keywordEach [] X.env)).all (fun x => x.1.isSome)
      && decide ([a].length + ([] : List Keyword).length + (if ([] : List Keyword).isEmpty then 0 else 1) < 30)) = true := by rfl)
    (hline : (apos.endLine == cpos.line) = true := by rfl) (hst : starEach [a] X.env = (false, eval a X.env) :: starEach [] X.env := by rfl) (hplain : (backTo cpos (starEach [] X.env)).any (·.1) = false := by rfl)
    (hs : swapsWith (.Call (.Attribute (.Name x p) "extend" apos) [a] [] cpos) none pos.line X.env = pure false := by rfl) :
    DS X W (.Expr (.Call (.Attribute (.Name x p) "extend" apos) [a] [] cpos) pos) (sExt i f) :=
  ds_ext (ps_expr (pe_bm PySem.F.plainAttrs_list PySem.F.slot_list_extend PySem.F.type_list_extend mt_extend (pe_var (C.at h) (C.vis hv) hd hcd) (pa_cons ha pa_nil hst) hbase hfew hline hst hplain) hs)
/-- raise C('..') -/
theorem yraise (C : Ctx P w K mg base X W N sc k) {x m : Str} {j : Nat} {p p2 cpos : Pos} (hm : mg x = some (.ref (He.ga K x))) (he : (He.Fa.exc x).ok K = true) (hg : glB sc x = true) (hdb : (x == ("__debug__" : Str)) = false := by decide) :
    DS X W (.Raise (some (.Call (.Name x p) [.Constant (.str m) j p2] [] cpos)) none pos) (sRaise (He.ga K x)) := by
  obtain ⟨q, kC, hs, ht⟩ := He.exc_ok he
  have eK := C.K
  subst eK
  exact ds_raise C.calm C.takes (pmk_own PySem.F.excBase_ValueError q (C.mgs hm) kC (raises_own hs ht) (C.gl hg) hdb)
end
end DL

set_option Elab.async false
set_option linter.all false
set_option maxRecDepth 100000
set_option maxHeartbeats 1000000
/-! Dict comprehensions stored on their own line; which stores are exchanged; try. -/
namespace DL
variable [Tabs]
open PySem PySem.Spec PyProof.Rows L2
section
variable {X : Cx}
theorem ps_setDc2 {i : Nat} {y : Str} {py : Pos} {kx vx tg iter tg1 iter1 : Expr} {scope : Scope} {own : List (Str × Nat)} {vs1 : List Nat} {pos spos : Pos} {wi wi1 : TI} {g g1 : TG} {tk tv : TE} (hc : X.calm = true) (hN : X.N.Nodup) (hy : X.N[i]? = some y) (hyl : X.env.scope.names.lookup y = some .local)
    (hsw : swapsWith (DC2 kx vx tg iter tg1 iter1 scope pos) (some (.Name y py)) spos.line X.env = pure true) (hi : PI X tg iter wi) (ok : BlkOk X.N X.env.scope scope own) (hv : ∀ i ∈ vs1, i ∈ own.map (·.2))
    (hg : AllB X scope fun Y => PG Y tg g) (hi1 : AllB X scope fun Y => PI Y tg1 iter1 wi1) (hg1 : AllB X scope fun Y => PG Y tg1 g1) (hk : AllB X scope fun Y => PE Y kx tk) (he : AllB X scope fun Y => PE Y vx tv)
    (hs : ∀ x, foldedSetIterable iter X.env x = pure x) (hs1 : ∀ env x, foldedSetIterable iter1 env x = pure x) :
    PS X (.Assign [.Name y py] (DC2 kx vx tg iter tg1 iter1 scope pos) spos) (tAsg (tDc2 wi g wi1 g1 tk tv (own.map (·.2)) vs1) (gName i)) := by
  refine ⟨fun pins s σ H D I h => ?_⟩
  rw [exec_Assign_Name_used _ _ _ _ hsw]
  refine wpAny_bind (wpAny_standAt (wpAny_bind ?_))
  show wpAny _ X.A (do let _ ← comprehension (DC2 kx vx tg iter tg1 iter1 scope pos) scope X.env (firstIterPos [⟨tg, iter, [], 0⟩, ⟨tg1, iter1, [], 0⟩] pos) newDict false (eval iter X.env) (some (assign (.Name y py) X.env))) _ _ s
  have h : tDc2 wi g wi1 g1 tk tv (own.map (·.2)) vs1 σ H (fun x H1 => gName i x σ H1 D.nx) := h
  refine wpAny_bind (thn (dc2_core (Qf := fun _ s' => SP X pins D .next s') hc hN I hi ok hv hg hi1 hg1 hk he hs hs1 h fun L C s' m H' I' q hn f => ?_) fun _ s' hq => wpAny_pure (wpAny_pure hq))
  show wpAny _ _ (assign (.Name y py) X.env (.ref L)) _ _ _
  refine wpAny_assign_Name (store_ok2 (v := V.ref L) I' hN hy (.inl hyl) rfl (fun s2 I2 ⟨a, sb, ha⟩ => ?_) (.inr hyl))
  obtain ⟨f0, f1, f2, f3, f4, f5⟩ := f
  have haC : C ≠ a := by
    rcases ha with z | z
    · rw [z]; exact f1
    · exact fun e => f4 y a z e.symm
  refine ⟨m, hn.sameBut sb haC, fun h3 sb3 => ?_⟩
  exact ⟨_, H', I2.turned (t' := s2.toks) (fun b o hb e => (sb3.2 b hb).trans e) f0 f1 f3 f4 f5, q⟩
end
section
variable {X : Cx} {W : WX} {pos : Pos}
theorem ds_ownDc2 {is is1 : List Nat} {i : Nat} {y : Str} {py : Pos} {kx vx tg iter tg1 iter1 : Expr} {scope : Scope} {own : List (Str × Nat)} {vs1 : List Nat} {spos : Pos} {f f1 : Env → R (List D)} {g g1 : D → Env → Option Env} {ek ev : Env → R D} (hc : X.calm = true) (hN : X.N.Nodup) (hy : X.N[i]? = some y) (hyl : X.env.scope.names.lookup y = some .local)
    (hsw : swapsWith (DC2 kx vx tg iter tg1 iter1 scope pos) (some (.Name y py)) spos.line X.env = pure true) (hi : DIg X W tg iter f) (ok : BlkOk X.N X.env.scope scope own)
    (hg : AllB X scope fun Y => DG Y is tg g) (hi1 : AllB X scope fun Y => DI Y WN tg1 iter1 f1) (hg1 : AllB X scope fun Y => DG Y is1 tg1 g1) (hk : AllB X scope fun Y => DE Y WN kx ek) (he : AllB X scope fun Y => DE Y WN vx ev) (t0 : Tame g) (t1 : Tame g1)
    (hv : ∀ i ∈ vs1, i ∈ own.map (·.2) := by decide) (his : ∀ i ∈ is, i ∈ own.map (·.2) := by decide) (his1 : ∀ i ∈ is1, i ∈ vs1 := by decide) (hs : ∀ x, foldedSetIterable iter X.env x = pure x := by intro _; rfl) (hs1 : ∀ env x, foldedSetIterable iter1 env x = pure x := by intro _ _; rfl) :
    DS X W (.Assign [.Name y py] (DC2 kx vx tg iter tg1 iter1 scope pos) spos) (sOwn i (oDc2 f g f1 g1 ek ev (own.map (·.2)) vs1)) :=
  ps_imp (ps_setDc2 hc hN hy hyl hsw hi ok hv hg hi1 hg1 hk he hs hs1) fun E σ H hh => dc2_of (Q := fun x H1 => gName i x σ H1 E.nx) his his1 t0 t1 (own_of hh)
end
/-! ### which stores are exchanged -/
theorem sw_lc {elt : Expr} {gs : List Comprehension} {scope sc : Scope} {pos py : Pos} {y : Str} {l : Nat} (hk : (match sc.kind with | .function => true | _ => false) = true) (hy : isLoc sc y = true) (hl : (py.line == pos.line) = true)
    (ha : (scope.names.any fun (n, k) => n == y && (k == .local || k == .cell)) = false) (env : PySem.Env) (e : env.scope = sc) : swapsWith (.ListComp elt gs scope pos) (some (.Name y py)) l env = pure true := by
  subst e
  refine sw_true ?_ (isLoc_of hy) hl ha
  revert hk
  cases env.scope.kind <;> simp
theorem sw_dc {kx vx : Expr} {gs : List Comprehension} {scope sc : Scope} {pos py : Pos} {y : Str} {l : Nat} (hk : (match sc.kind with | .function => true | _ => false) = true) (hy : isLoc sc y = true) (hl : (py.line == pos.line) = true)
    (ha : (scope.names.any fun (n, k) => n == y && (k == .local || k == .cell)) = false) (env : PySem.Env) (e : env.scope = sc) : swapsWith (.DictComp kx vx gs scope pos) (some (.Name y py)) l env = pure true := by
  subst e
  have ky : env.kindOf y = some .local := isLoc_of hy
  have hk2 : env.scope.kind = .function := by
    revert hk
    cases env.scope.kind <;> simp
  have hb : env.blockKind = .function := by unfold Env.blockKind; rw [hk2]; rfl
  unfold swapsWith
  simp only [hb, ky, ha, Expr.pos, hl]
  rfl
def isCel (sc : Scope) (x : Str) : Bool := match sc.names.lookup x with
  | some .cell => true
  | _ => false
theorem isCel_of {sc : Scope} {x : Str} (h : isCel sc x = true) : sc.names.lookup x = some .cell := by
  unfold isCel at h
  split at h
  · assumption
  · cases h
/-- .. into a cell's name: not exchanged -/
theorem sw_cell {elt : Expr} {gs : List Comprehension} {scope sc : Scope} {pos py : Pos} {y : Str} {l : Nat} (hy : isCel sc y = true) (env : PySem.Env) (e : env.scope = sc) : swapsWith (.ListComp elt gs scope pos) (some (.Name y py)) l env = pure false := by
  subst e
  have ky : env.kindOf y = some .cell := isCel_of hy
  unfold swapsWith
  simp only [ky]
  have : ((some NameKind.cell : Option NameKind) == some .local) = false := rfl
  simp only [this, Bool.and_false, Bool.false_and]
theorem sw_other {elt : Expr} {gs : List Comprehension} {scope sc : Scope} {pos py : Pos} {y : Str} {l : Nat} (ha : ((py.line == pos.line) && !(scope.names.any fun (n, k) => n == y && (k == .local || k == .cell))) = false) (env : PySem.Env) (e : env.scope = sc) : swapsWith (.ListComp elt gs scope pos) (some (.Name y py)) l env = pure false := by
  unfold swapsWith
  simp only [Expr.pos]
  rw [Bool.and_assoc, ha, Bool.and_false]
def starB : Expr → Bool
  | .Starred .. => true
  | _ => false
/-- which stores of a parallel assignment are exchanged, by the scope -/
def swK (kd : Str → Option NameKind) (ts vs : List Expr) : Option (Option (List Str)) :=
  if (!(ts.length == 2 || ts.length == 3) || vs.length != ts.length) = true then some none else
  if vs.any starB = true then some none else
  if ((ts.filterMap fun
    | .Name id pos => if kd id == some .local && pos.line == (ts.head?.map (·.pos.line)).getD 0 then some id else none
    | _ => none).length != ts.length || (ts.filterMap fun
    | .Name id pos => if kd id == some .local && pos.line == (ts.head?.map (·.pos.line)).getD 0 then some id else none
    | _ => none).eraseDups.length != (ts.filterMap fun
    | .Name id pos => if kd id == some .local && pos.line == (ts.head?.map (·.pos.line)).getD 0 then some id else none
    | _ => none).length) = true then some none else
  if vs.all (foldedForSure 8) = true then some none else
  if vs.all (constantsAlone 8) = true then none else some (some (ts.filterMap fun
    | .Name id pos => if kd id == some .local && pos.line == (ts.head?.map (·.pos.line)).getD 0 then some id else none
    | _ => none))
def swS (ts vs : List Expr) (sc : Scope) : Option (Option (List Str)) := swK (fun x => sc.names.lookup x) ts vs
theorem sw_par {ts vs : List Expr} {kt k2 : Nat} {pt pt2 : Pos} {sc : Scope} {r : Option (List Str)} (hk : (match sc.kind with | .function => true | _ => false) = true) (h : swS ts vs sc = some r) (env : PySem.Env) (e : env.scope = sc) : swappedStores [.Tuple ts kt pt] (.Tuple vs k2 pt2) env = pure r := by
  subst e
  have hk2 : env.scope.kind = .function := by
    revert hk
    cases env.scope.kind <;> simp
  have hb : (env.blockKind != .function) = false := by unfold Env.blockKind; rw [hk2]; rfl
  have h : swK env.kindOf ts vs = some r := h
  unfold swK at h
  unfold swappedStores
  simp only [hb, Bool.or_false]
  have es : ∀ l : List Expr, (l.any fun | .Starred .. => true | _ => false) = l.any starB := fun l => by
    congr 1
  split at h
  · rename_i c; cases h; exact if_pos c
  · rename_i c1
    refine (if_neg c1).trans ?_
    split at h
    · rename_i c; cases h; exact if_pos ((es vs).trans c)
    · rename_i c2
      refine (if_neg fun z => c2 ((es vs).symm.trans z)).trans ?_
      split at h
      · rename_i c; cases h; exact if_pos c
      · rename_i c3
        refine (if_neg c3).trans ?_
        split at h
        · rename_i c; cases h; exact if_pos c
        · rename_i c4
          refine (if_neg c4).trans ?_
          split at h
          · cases h
          · rename_i c5; cases h; exact if_neg c5
section
variable {P : Program} {w : World} {K : PySem.W.Frag} {mg : Str → Option Value} {base : Heap} {X : Cx} {W : WX} {N : List Str} {sc : Scope} {k : Nat} {pos : Pos}
theorem ydc2 (C : Ctx P w K mg base X W N sc k) (j : Nat) (own : List (Str × Nat)) (is is1 vs1 : List Nat) {y : Str} {py spos : Pos} {kx vx tg iter tg1 iter1 : Expr} {scope : Scope} {f f1 : Env → R (List D)} {g g1 : D → Env → Option Env} {ek ev : Env → R D} (hy : N[j]? = some y) (hyl : isLoc sc y = true)
    (hsw : ∀ env : PySem.Env, env.scope = sc → swapsWith (DC2 kx vx tg iter tg1 iter1 scope pos) (some (.Name y py)) spos.line env = pure true) (hi : DIg X W tg iter f) (ok : blkC N sc scope own = true)
    (h : ∀ Y, Ctx P w K mg base Y WN N (relS scope sc) k → (∀ x, (scope.names.lookup x == some NameKind.cell) = true → Y.fn x = true) → DG Y is tg g ∧ DI Y WN tg1 iter1 f1 ∧ DG Y is1 tg1 g1 ∧ DE Y WN kx ek ∧ DE Y WN vx ev) (t0 : Tame g) (t1 : Tame g1)
    (hv : ∀ i ∈ vs1, i ∈ own.map (·.2) := by decide) (his : ∀ i ∈ is, i ∈ own.map (·.2) := by decide) (his1 : ∀ i ∈ is1, i ∈ vs1 := by decide) (hs : ∀ x, foldedSetIterable iter X.env x = pure x := by intro _; rfl) (hs1 : ∀ env x, foldedSetIterable iter1 env x = pure x := by intro _ _; rfl) :
    DS X W (.Assign [.Name y py] (DC2 kx vx tg iter tg1 iter1 scope pos) spos) (sOwn j (oDc2 f g f1 g1 ek ev (own.map (·.2)) vs1)) :=
  ds_ownDc2 C.calm C.nd' (C.at hy) (C.isLoc hyl) (hsw _ C.hsc) hi (C.ok ok) (C.all fun Y c q => (h Y c q).1) (C.all fun Y c q => (h Y c q).2.1) (C.all fun Y c q => (h Y c q).2.2.1) (C.all fun Y c q => (h Y c q).2.2.2.1) (C.all fun Y c q => (h Y c q).2.2.2.2) t0 t1 hv his his1 hs hs1
theorem yset' (C : Ctx P w K mg base X W N sc k) (i : Nat) {x : Str} {e : Expr} {p : Pos} {f : Env → R D} (h : N[i]? = some x) (hx : locB sc x = true) (hf : X.fn x = true ∨ isLoc sc x = true) (hs : ∀ env : PySem.Env, env.scope = sc → swapsWith e (some (.Name x p)) pos.line env = pure false) (he : DE X W e f) : DS X W (.Assign [.Name x p] e pos) (sSet i f) :=
  ds_set C.nd' (C.at h) (C.loc hx) he (hs _ C.hsc) (hf.imp id C.isLoc)
/-! ### try: body, except x as n: suite that returns -/
/-- an except suite's place -/
structure SCtx (K : PySem.W.Frag) (mg : Str → Option Value) (X : Cx) (N : List Str) (sc : Scope) : Prop where
  K : X.K = K
  mg : X.mg = mg
  hN : X.N = N
  hsc : X.env.scope = sc
  nd : N.Nodup
  hu : X.A.units + 65 < cLine
theorem SCtx.gl (C : SCtx K mg X N sc) {x : Str} (h : glB sc x = true) : Gl X x := by
  show X.env.scope.names.lookup x = some .globalImplicit
  rw [C.hsc]
  exact gl_of h
theorem sv (C : SCtx K mg X N sc) (i : Nat) {x : Str} (h : N[i]? = some x) (hv : visB sc x = true) (hd : (x == ("__debug__" : Str)) = false := by decide) (hcd : (x == ("__classdict__" : Str)) = false := by decide) : DE X W (.Name x pos) (eVar i) := de_var (by rw [C.hN]; exact h) (by rw [C.hsc]; exact vis_of hv) hd hcd
theorem sref (C : SCtx K mg X N sc) {x : Str} {a : Addr} (h : mg x = some (.ref a)) (hg : glB sc x = true) (hd : (x == ("__debug__" : Str)) = false := by decide) : DE X W (.Name x pos) (eC (.ref a)) :=
  de_glob (v := .ref a) (C.gl hg) (by rw [C.mg]; exact h) rfl (fun _ => .ref a) hd
theorem sisi (C : SCtx K mg X N sc) {cl a : Addr} {e : Expr} {es : List Expr} {p : Pos} {as : Env → R (List D)} (h : CallR X (.builtin "isinstance") (rIsE K cl a)) (hm : mg "isinstance" = none) (hg : glB sc "isinstance" = true) (ha : DA X W (e :: es) as) (he : starEach (e :: es) X.env = (false, eval e X.env) :: starEach es X.env := by rfl) (hpl : (backTo pos (starEach es X.env)).any (·.1) = false := by rfl) :
    DE X W (.Call (.Name "isinstance" p) (e :: es) [] pos) (eArgs (gIsE K cl a) as) := by
  have eK := C.K
  subst eK
  exact de_callB h cs_isE (C.gl hg) (by rw [C.mg]; exact hm) (by decide +kernel) ha (he := he) (hpl := hpl)
theorem sset (C : SCtx K mg X N sc) (i : Nat) {x : Str} {e : Expr} {p : Pos} {f : Env → R D} (h : N[i]? = some x) (hx : isLoc sc x = true) (he : DE X W e f) (hs : swapsWith e (some (.Name x p)) pos.line X.env = pure false := by rfl) : DS X W (.Assign [.Name x p] e pos) (sSet i f) :=
  ds_set (by rw [C.hN]; exact C.nd) (by rw [C.hN]; exact h) (by rw [C.hsc]; exact .inl (isLoc_of hx)) he hs (.inr (by rw [C.hsc]; exact isLoc_of hx))
theorem sindex (C : SCtx K mg X N sc) {o a : Expr} {apos : Pos} {fo : Env → R D} {fa : Env → R (List D)} (ho : DE X W o fo) (ha : DA X W [a] fa) (hl : ∀ ρ ds, fa ρ = .ok ds → ds.length = 1)
    (hbase : attributeBase o "index" X.env (eval o X.env) = eval o X.env := by rfl)
    (hfew : ((backTo pos (starEach [a] X.env)).all (fun x => !x.1) && (backToKw pos (keywordEach [] X.env)).all (fun x => x.1.isSome)
      && decide ([a].length + ([] : List Keyword).length + (if ([] : List Keyword).isEmpty then 0 else 1) < 30)) = true := by rfl)
    (hline : (apos.endLine == pos.line) = true := by rfl) (hs : starEach [a] X.env = (false, eval a X.env) :: starEach [] X.env := by rfl) (hplain : (backTo pos (starEach [] X.env)).any (·.1) = false := by rfl) :
    DE X W (.Call (.Attribute o "index" apos) [a] [] pos) (eIndex fo fa) :=
  de_index (pe_bm PySem.F.plainAttrs_list PySem.F.slot_list_index PySem.F.type_list_index (mt_indexD C.hu) ho ha hbase hfew hline hs hplain) hl
def hIf (L : List Addr) (h : Addr → Addr → SD) : Addr → Addr → SD := fun cl a => if cl ∈ L then h cl a else fun _ => none
theorem ytry (C : Ctx P w K mg base X W N sc k) (O : Cok X W N sc k) (i : Nat) (L : List Addr) (hL : ∀ c ∈ L, ExcC K c) {x n : Str} {body suite : List Stmt} {b0 : Stmt} {np pos' : Pos} {b : SD} {h : Addr → Addr → SD} (hi : N[i]? = some n) (hln : isLoc sc n = true) (hg : glB sc x = true) (hm : mg x = some (.ref (He.ga K x)))
    (hb : ∀ Y V, Ctx P w K mg base Y V N sc k → PassesOwn (model Y.prog Y.w) Y.A Y.env Y.xe → (∀ x, Y.fn x = true) → DSs Y V body b)
    (hsu : ∀ Y cl a, SCtx K mg Y N sc → CallR Y (.builtin "isinstance") (rIsE K cl a) → DSs Y WN (b0 :: suite) (h cl a))
    (hh : ∀ cl a (ρ : Env) d, h cl 0 (ρ.set i (.val (.ref 0))) = some (.rt d) → h cl a (ρ.set i (.val (.ref a))) = some (.rt d)) (hdb : (x == ("__debug__" : Str)) = false := by decide) :
    DS X W (.Try body [.ExceptHandler (some (.Name x np)) (some n) (b0 :: suite) pos'] [] [] pos) (sTry b i (fun cl => PySem.W.exmOne K (.ref cl) (.ref (He.ga K x))) (hIf L h)) := by
  have eK := C.K
  subst eK
  refine ds_try O.stack O.frame C.nd' (C.at hi) (C.isLoc hln) ⟨C.gl hg, hdb, .inl (C.mgs hm)⟩ C.takes (fun V pn xe tk hp => hb _ V ⟨C.prog, C.wd, rfl, C.mg, C.bs, C.hN, C.hsc, C.nd, C.calm, C.room, tk⟩ hp O.fn) (fun a oe cl pn hz hd => ?_) fun cl a ρ d => ?_
  · unfold hIf
    split
    · rename_i hc
      exact hsu _ cl a ⟨rfl, C.mg, C.hN, C.hsc, C.nd, C.hu⟩ (call_isE (hL cl hc) hz hd)
    · exact pss_imp pss_never fun E σ H ⟨F0, H0, F, ρ, S, q⟩ => q.elim
  · unfold hIf
    split
    · exact hh cl a ρ d
    · exact fun h => h
end
end DL
namespace DL
variable [Tabs]
open PySem PySem.Spec PyProof.Rows L2
section
variable {P : Program} {w : World} {K : PySem.W.Frag} {mg : Str → Option Value} {base : Heap} {X : Cx} {W : WX} {N : List Str} {sc : Scope} {k : Nat} {pos : Pos}
theorem yparT (C : Ctx P w K mg base X W N sc k) (is : List Nat) {tgs es : List Expr} {f : Env → R (List Slot)} {kt k2 : Nat} {pt pt2 : Pos} (hw : ∀ env : PySem.Env, env.scope = sc → swappedStores [.Tuple tgs kt pt] (.Tuple es k2 pt2) env = pure none) (hg : PGs X tgs (gNames is)) (ha : DM X W es f)
    (hn : (assignEach tgs X.env).length = is.length := by rfl) (hst : (assignEach tgs X.env).findIdx? (·.1) = none := by rfl) (hsz : is.length ≤ 1000 := by decide)
    (hs : swapsWithSole [.Tuple tgs kt pt] (.Tuple es k2 pt2) pos.line X.env = pure false := by rfl) (h1 : (assignEach [.Tuple tgs kt pt] X.env).map (·.2) = [assign (.Tuple tgs kt pt) X.env] := by rfl) : DS X W (.Assign [.Tuple tgs kt pt] (.Tuple es k2 pt2) pos) (sPar is f) := ds_parT C.calm hg ha hn hst hsz hs (hw _ C.hsc) h1
theorem xtab (C : Ctx P w K mg base X W N sc k) {T : Addr → Option (Nat × (List D → R D))} {j : Nat} {fe e : Expr} {es : List Expr} {ff : Env → R D} {as : Env → R (List D)} (hT : ∀ a n f, T a = some (n, f) → FdA P w K mg base j a n f) (hk : j ≤ k)
    (hf : DE X W fe ff) (ha : DA X W (e :: es) as) (ht : eval (.Call fe (e :: es) [] pos) X.env = (do callWith pos (← eval fe X.env) [] (backTo pos (starEach (e :: es) X.env)) (backToKw pos (keywordEach [] X.env))) := by rfl)
    (he : starEach (e :: es) X.env = (false, eval e X.env) :: starEach es X.env := by rfl) (hpl : (backTo pos (starEach es X.env)).any (·.1) = false := by rfl) : DE X W (.Call fe (e :: es) [] pos) (eCallV T ff as) :=
  de_callV (fun a n f h => C.fda (hT a n f h)) C.room hk C.takes hf ha ht he hpl
end
/-- a table of defs by their addresses -/
def tabD : List (Addr × Nat × (List D → R D)) → Addr → Option (Nat × (List D → R D))
  | [], _ => none
  | p :: r, a => if a = p.1 then some p.2 else tabD r a
theorem tab_nil {P : Program} {w : World} {K : PySem.W.Frag} {mg : Str → Option Value} {base : Heap} {j : Nat} : ∀ a n f, tabD [] a = some (n, f) → FdA P w K mg base j a n f := fun _ _ _ h => by cases h
theorem Fd.mono {P : Program} {w : World} {K : PySem.W.Frag} {mg : Str → Option Value} {base : Heap} {i j n : Nat} {x : Str} {f : List D → R D} (h : Fd P w K mg base i x n f) (hij : i ≤ j) : Fd P w K mg base j x n f := by
  obtain ⟨a, fd, ps, hm, F, kp, b⟩ := h.ex
  exact ⟨a, fd, ps, hm, F.mono hij, kp, b⟩
theorem tab_cons {P : Program} {w : World} {K : PySem.W.Frag} {mg : Str → Option Value} {base : Heap} {i j : Nat} {x : Str} {a0 : Addr} {n0 : Nat} {f0 : List D → R D} {r : List (Addr × Nat × (List D → R D))} (h : Fd P w K mg base i x n0 f0) (hm : mg x = some (.ref a0)) (hij : i ≤ j) (hr : ∀ a n f, tabD r a = some (n, f) → FdA P w K mg base j a n f) :
    ∀ a n f, tabD ((a0, n0, f0) :: r) a = some (n, f) → FdA P w K mg base j a n f := fun a n f e => by
  unfold tabD at e
  split at e
  · rename_i ea
    cases e
    rw [ea]
    exact (h.mono hij).at hm
  · exact hr a n f e
end DL

set_option Elab.async false
set_option linter.all false
set_option maxRecDepth 100000
set_option maxHeartbeats 2000000
/-! sorted(xs), min(xs), < of data: tuples (empty ones too), nested. -/
namespace DL
variable [Tabs]
open PySem PySem.Spec PySem.W PySem.SeqAt PyProof.Rows L2
/-! ### one key against another: tuples -/
section
variable {prog : Program} {w : World} {A : Around} {E : Value → Shared → Prop} {s : Shared}
theorem call_tuple_lt {Q : Value → Shared → Prop} {l b : Addr} {items items2 : Array Value} {e r : Nat → Bool} (hl : s.heap.IsTuple l items) (hb : s.heap.IsTuple b items2)
    (he : ∀ j (h1 : j < items.size) (h2 : j < items2.size), EqAt A.in1 s items[j] items2[j] (e j)) (hr : ∀ j (h1 : j < items.size) (h2 : j < items2.size), e j = false → RcLt A.in1 s items[j] items2[j] (r j))
    (h : Q (.bool (firstLt e r (decide (items.size < items2.size)) (List.range (min items.size items2.size)))) s) : wpAny (model prog w) A (call (.builtin "tuple.__lt__") [.ref l, .ref b]) Q E s := by
  obtain ⟨⟨cls, dd, data, sl⟩, ho, hc, n, hd⟩ := id hl
  obtain ⟨⟨cls2, dd2, data2, sl2⟩, ho2, hc2, n2, hd2⟩ := id hb
  simp only at hc hd hc2 hd2
  subst hc hd hc2 hd2
  exact call_meets F.slot_tuple_lt ⟨_, ho, rfl⟩ F.entry_tuple_lt (F.args_tuple_lt_2 _ _) (tuple_ltAt l b items items2 n n2 dd dd2 sl sl2 e r) ⟨ho, ho2, he, hr, h⟩
theorem oneLt_tup {f : Bool} {xs ys : List PyData} {a b : Value} {as bs : List Addr} {Q : Bool → Shared → Prop} (ra : Reads s.heap a (.tuple xs) as) (rb : Reads s.heap b (.tuple ys) bs) (h : alike (.tuple xs) (.tuple ys) = true)
    (hu : A.units + min (PyData.tuple xs).depth (PyData.tuple ys).depth < cLine) (hq : Q (dataLt (.tuple xs) (.tuple ys)) s) : wpAny (model prog w) A (oneLt' f a b) Q E s := by
  cases f with
  | false => exact oneLt_alike (fun z => by cases z) ra rb h (fun z => by cases z) hu hq
  | true =>
    have hal : alikeAll xs ys = true := by simpa [alike] using h
    cases ra with
    | @tuple l o vs n _ as₁ h1 h2 h3 h4 =>
      cases rb with
      | @tuple l' o' vs' n' _ bs₁ k1 k2 k3 k4 =>
        have n1 : vs.size = xs.length := by simpa using ReadsAll.length _ _ _ h4
        have n2 : vs'.size = ys.length := by simpa using ReadsAll.length _ _ _ k4
        rw [dataLt_tuple, ← firstLt_toks xs ys hal, ← n1, ← n2] at hq
        rw [oneLt'_eq]
        simp only [if_true]
        refine wpAny_bind (wpAny_cRoomFor (room_here hu) ?_)
        refine wpAny_bind (wpAny_callSpecialIfBound?_slot (T := "tuple") ⟨_, h1, h2⟩ F.slot_tuple_lt (call_tuple_lt (e := pairEq xs ys) (r := fun j => dataLt (xs.getD j .none) (ys.getD j .none)) ⟨_, h1, h2, _, h3⟩ ⟨_, k1, k2, _, k3⟩ (fun j j1 j2 => ?_) (fun j j1 j2 hj => ?_) ?_))
        · have := eqAt_alikeAll xs ys A.in1 s vs.toList vs'.toList _ _ h4 k4 hal (room_in hu) j (by simpa using j1) (by simpa using j2)
          simpa using this
        · have := rcLt_alikeAll xs ys A.in1 s vs.toList vs'.toList _ _ h4 k4 hal (room_in hu) j (by simpa using j1) (by simpa using j2) hj
          simpa using this
        · exact wpAny_truthy_bool hq
end
/-! ### the kind of a list of tuples, one of them empty -/
/-- v is a tuple with the first item f -/
def FirstIs (h : Heap) (v : Value) (f : Option Value) : Prop := ∃ a o xs n, v = .ref a ∧ h.get? a = some o ∧ o.cls = .type "tuple" ∧ o.data = .seq xs n ∧ xs[0]? = f
section
variable {M : Model} {A : Around} {E : Value → Shared → Prop} {s : Shared}
theorem firsts_mix : ∀ (vs : List Value) (fs : List (Option Value)) {Q : List (Option Value) → Shared → Prop}, EachIs (FirstIs s.heap) vs fs → Q fs s → wpAny M A (vs.mapM firstOfTuple') Q E s
  | _, _, _, .nil, h => by rw [List.mapM_nil]; exact wpAny_pure h
  | _, _, Q, .cons (a := v) (b := f) (as := vs) (bs := fs) ⟨a, o, xs, n, e, ho, hc, hd, hf⟩ t, h => by
    subst e
    rw [List.mapM_cons]
    refine wpAny_bind ?_
    rw [kas_first_eq]
    refine wpAny_bind (Looks.here (show Looks M s.heap (typeOf (.ref a)) o.cls from (Looks.ld ho).andThen .now) ?_)
    rw [hc, if_neg (by first | decide | simp)]
    refine wpAny_bind (listItems_at ho hd (wpAny_pure ?_))
    rw [hf]
    exact wpAny_bind (firsts_mix vs fs (Q := fun bs s' => wpAny M A (pure (f :: bs)) Q E s') t (wpAny_pure h))
theorem kind_mix {vs : List Value} {fs : List (Option Value)} {Q : SortKind → Shared → Prop} (t : EachIs (FirstIs s.heap) vs fs) (hno : fs.all (·.isSome) = false) (h : Q (if (fs[0]?.bind id).isSome = true then general' else oneType') s) : wpAny M A (keyKind' vs.toArray) Q E s := by
  rw [kat_kind_eq, List.mapM_toArray, map_eq_pure_bind]
  refine wpAny_bind (wpAny_bind (firsts_mix vs fs t (wpAny_pure ?_)))
  have hall : (fs.toArray.all fun x => x.isSome) = false := by simpa using hno
  rw [if_neg (by rw [hall]; decide)]
  have e0 : fs.toArray[0]? = fs[0]? := by simp
  rw [e0]
  by_cases c : (fs[0]?.bind id).isSome = true
  · rw [if_pos c] at h
    rw [if_pos c]
    exact wpAny_pure h
  · rw [if_neg c] at h
    rw [if_neg c]
    have hT : ∀ v ∈ vs, Looks M s.heap (typeOf v) (.type "tuple") := fun v hv => by
      obtain ⟨f, _, a, o, xs, n, rfl, ho, hc, hd, _⟩ := t.left v hv
      rw [← hc]
      exact (Looks.ld ho).andThen .now
    rw [oneTypeOnly'_eq, List.mapM_toArray, map_eq_pure_bind]
    refine wpAny_bind (wpAny_bind (wpAny_bind (kas_mapM (r := Value.type "tuple") _ (fun v hv Q' hq => (hT v hv).here hq) (wpAny_pure ?_))))
    obtain ⟨v0, rest, rfl⟩ : ∃ v0 rest, vs = v0 :: rest := by
      cases vs with
      | nil => cases t; simp at hno
      | cons v r => exact ⟨v, r, rfl⟩
    have hall2 : ((List.map (fun _ => Value.type "tuple") (v0 :: rest)).toArray.all fun x => x == Value.type "tuple") = true := by
      simp only [List.all_toArray, List.all_map, List.all_eq_true]
      intro _ _
      exact beq_self_eq_true _
    have h0 : (List.map (fun _ => Value.type "tuple") (v0 :: rest)).toArray[0]? = some (Value.type "tuple") := by simp
    rw [h0]
    simp only [hall2, if_true]
    exact wpAny_pure (wpAny_pure h)
end
section
variable {prog : Program} {w : World} {A : Around} {E : Value → Shared → Prop} {s : Shared}
theorem each_firsts {h : Heap} : ∀ {vs : List Value} {ds : List PyData}, EachIs (fun v d => ∃ as, Reads h v d as) vs ds → (∀ d ∈ ds, ∃ xs, d = .tuple xs) → ∃ fs, EachIs (FirstIs h) vs fs ∧ (fs.all (·.isSome) = true → ∀ d ∈ ds, ∃ x r, d = .tuple (x :: r))
  | _, _, .nil, _ => ⟨[], .nil, by simp⟩
  | _, _, .cons (a := v) (b := d) (as := vs) (bs := ds) ⟨as, r⟩ t, h => by
    obtain ⟨fs, t1, t2⟩ := each_firsts t fun z hz => h z (by simp [hz])
    obtain ⟨xs, rfl⟩ := h d (by simp)
    cases r with
    | @tuple l o its n _ _ h1 h2 h3 h4 =>
      refine ⟨its[0]? :: fs, .cons ⟨l, o, its, n, rfl, h1, h2, h3, rfl⟩ t1, fun ha z hz => ?_⟩
      simp only [List.all_cons, Bool.and_eq_true] at ha
      rcases List.mem_cons.mp hz with rfl | hz
      · cases xs with
        | nil =>
          cases h4' : its.toList with
          | nil =>
            have : its[0]? = none := by
              rw [Array.getElem?_eq_none]
              have := congrArg List.length h4'
              simp at this
              simp [this]
            rw [this] at ha
            exact absurd ha.1 (by decide)
          | cons a b => rw [h4'] at h4; cases h4
        | cons x r => exact ⟨x, r, rfl⟩
      · exact t2 ha.2 z hz
/-- tuples of alike data, empty ones among them or not, can be sorted -/
theorem sorts_tuples {vs : List Value} {ds : List PyData} (e : EachIs (fun v d => ∃ as, Reads s.heap v d as) vs ds) (hal : AllAlike ds) (ht : ∀ d ∈ ds, ∃ xs, d = .tuple xs) (hu : ∀ d, d ∈ ds → A.units + d.depth < cLine) : SortsAt prog w A s (dataKind s.heap ds) vs := by
  obtain ⟨fs, t1, t2⟩ := each_firsts e ht
  by_cases c : fs.all (·.isSome) = true
  · exact SortsAt.data e hal (.inl (t2 c)) hu
  · have c : fs.all (·.isSome) = false := by simpa using c
    refine ⟨fun v hv => ?_, (if (fs[0]?.bind id).isSome = true then general' else oneType'), fun E x y a b Q ha hb hq => ?_, fun h2 E Q hq => kind_mix t1 c hq⟩
    · obtain ⟨d, hd, as, r⟩ := e.left v hv
      exact ⟨_, dataKind_some hal hd r⟩
    · obtain ⟨d, as, hd, ra, rfl⟩ := dataKind_inv ha
      obtain ⟨d', as', hd', rb, rfl⟩ := dataKind_inv hb
      obtain ⟨xs, rfl⟩ := ht d hd
      obtain ⟨ys, rfl⟩ := ht d' hd'
      have hr : A.units + min (PyData.tuple xs).depth (PyData.tuple ys).depth < cLine := Nat.lt_of_le_of_lt (Nat.add_le_add_left (Nat.min_le_left _ _) _) (hu _ hd)
      split
      · exact oneLt_tup (f := false) ra rb (hal _ hd _ hd') hr hq
      · exact oneLt_tup (f := true) ra rb (hal _ hd _ hd') hr hq
end
/-! ### sorted, at the data -/
/-- d is not behind e -/
def leD (d e : D) : Bool := !dataLt (toP e) (toP d)
def tupB : D → Bool
  | .tup _ => true
  | _ => false
/-- tuples that may be compared, nested at most seven deep -/
def sortable (l : List D) : Bool := l.all tupB && (doks 7 l && l.all fun d => l.all fun e => alike (toP d) (toP e))
def rSD (K : PySem.W.Frag) : List V → Hp → VK → Prop := fun vs H Q => ∃ F a xs dl, vs = [.ref a] ∧ Evl.Ex F H ∧ SqL K H a xs ∧ Reps K F xs dl ∧ sortable dl = true ∧ ∀ p ys, H p = none → ys.length = xs.length → Reps K F ys (dl.mergeSort leD) → Q (.ref p) (upd H p (.lst ys))
theorem each_of {K : PySem.W.Frag} {F : Hp} : ∀ {xs : List V} {us : List Value} {dl : List D}, Vals xs us → Reps K F xs dl → EachIs (fun u d => ∃ x, RelV x u ∧ Rep K F x d) us dl
  | _, _, _, .nil, .nil => .nil
  | _, _, _, .cons r t, .cons q u => .cons ⟨_, r, q⟩ (each_of t u)
theorem each_back {K : PySem.W.Frag} {F : Hp} : ∀ {us : List Value} {dl : List D}, EachIs (fun u d => ∃ x, RelV x u ∧ Rep K F x d) us dl → ∃ xs : List V, Vals xs us ∧ Reps K F xs dl
  | _, _, .nil => ⟨[], .nil, .nil⟩
  | _, _, .cons ⟨x, r, q⟩ t => by
    obtain ⟨xs, h1, h2⟩ := each_back t
    exact ⟨x :: xs, .cons r h1, .cons q h2⟩
theorem each_map {α β γ : Type} {R : α → β → Prop} {S : α → γ → Prop} {f : β → γ} : ∀ {as : List α} {bs : List β}, (∀ a b, b ∈ bs → R a b → S a (f b)) → EachIs R as bs → EachIs S as (bs.map f)
  | _, _, _, .nil => .nil
  | _, _, h, .cons r t => .cons (h _ _ (by simp) r) (each_map (fun a b hb => h a b (by simp [hb])) t)
theorem each_same {α β : Type} {R S : α → β → Prop} : ∀ {as : List α} {bs : List β}, (∀ a b, b ∈ bs → R a b → S a b) → EachIs R as bs → EachIs S as bs
  | _, _, _, .nil => .nil
  | _, _, h, .cons r t => .cons (h _ _ (by simp) r) (each_same (fun a b hb => h a b (by simp [hb])) t)
theorem cr_sortedDat {X : Cx} (hu : X.A.units + 65 < cLine) : CallR X (.builtin "sorted") (rSD X.K) := by
  intro pins s σ H vs us Q I r h
  obtain ⟨F, a, xs, dl, rfl, sub, hs, rp, hk, q⟩ := h
  obtain ⟨its, rv, hl, hz⟩ := I.list hs
  obtain ⟨u, rfl, ru⟩ := vals1 r
  obtain rfl : u = Value.ref a := ru
  unfold sortable at hk
  simp only [Bool.and_eq_true] at hk
  obtain ⟨k1, k2, k3⟩ := hk
  have kd : ∀ d ∈ dl, dok 7 d = true := by rw [doks_all] at k2; exact List.all_eq_true.mp k2
  have each := each_of rv rp
  let H2 : Heap := sortingHeap (copyHeap s.heap its) (s.heap.objs.size + 1) its
  have er : EachIs (fun v d => ∃ as, Reads H2 v d as) its (dl.map toP) := each_map (fun v d hd ⟨x, hx, hr⟩ => by
    obtain ⟨as, hr2⟩ := Dp.reads I (toP d) x v (hr.dp sub (kd d hd)) hx
    exact ⟨as, Reads.keeps (fun b o e => sorting_copy_old e) hr2⟩) each
  have hal : AllAlike (dl.map toP) := fun d hd d' hd' => by
    obtain ⟨z, hz, rfl⟩ := List.mem_map.mp hd
    obtain ⟨z', hz', rfl⟩ := List.mem_map.mp hd'
    exact List.all_eq_true.mp (List.all_eq_true.mp k3 z hz) z' hz'
  have ht : ∀ d ∈ dl.map toP, ∃ ys, d = .tuple ys := fun d hd => by
    obtain ⟨z, hz, rfl⟩ := List.mem_map.mp hd
    have := List.all_eq_true.mp k1 z hz
    cases z <;> simp [tupB] at this
    exact ⟨_, rfl⟩
  have hdep : ∀ d ∈ dl.map toP, X.A.in1.in1.units + d.depth < cLine := fun d hd => by
    obtain ⟨z, hz, rfl⟩ := List.mem_map.mp hd
    have := (dok_lay 7 z (kd z hz)).2
    have e1 : X.A.in1.in1.units = X.A.units + 2 := rfl
    omega
  have S : SortsAt X.prog X.w X.A.in1.in1 { s with heap := H2 } (dataKind H2 (dl.map toP)) its := sorts_tuples (s := { s with heap := H2 }) er hal ht hdep
  refine sorted_vals hl.isList S (by rw [← rv.length]; exact hz) ?_
  have out := sortVals_each (κ := dataKind H2 (dl.map toP)) (rev := false) (fun d : D => keyToks (toP d)) each (each_same (fun v d hd ⟨x, hx, hr⟩ => by
    obtain ⟨as, hr2⟩ := Dp.reads I (toP d) x v (hr.dp sub (kd d hd)) hx
    exact dataKind_some hal (List.mem_map.mpr ⟨d, hd, rfl⟩) (Reads.keeps (fun b o e => sorting_copy_old e) hr2)) each)
  obtain ⟨ys, v1, v2⟩ := each_back out
  obtain ⟨n, hn⟩ := sortedAll_at s.heap its (sortVals (dataKind H2 (dl.map toP)) false its its).toArray
  have hlen : ys.length = xs.length := by
    rw [v2.length, rp.length, List.length_mergeSort]
  refine ⟨.ref (s.heap.objs.size + 1), upd H (s.heap.objs.size + 1) (.lst ys), I.laid (t' := s.toks) (fun b o e => sortedAll_old e) (Nat.le_succ _) ⟨by rw [hlen]; exact hz, _, n, v1, hn⟩, rfl, q _ ys (I.hok.fresh (Nat.le_succ _)) hlen v2⟩
/-- sorted(xs): ints or tuples, a dict's int keys -/
def gSorted : List D → Option (List D)
  | [.lst l] => (match asInts l with
    | some ns => some ((srtI ns).map D.int)
    | none => if sortable l then some (l.mergeSort leD) else none)
  | [.dI ks _] => if ks.length < 64 then some ((srtI ks).map D.int) else none
  | _ => none
theorem co_sorted {K : PySem.W.Frag} : CallO K (fun xs H Q => (rSortedI K xs H Q ∨ (∃ (a : Addr) (kvs : List (Key × V)) (ks : List Int), xs = [.ref a] ∧ Rd H a (.dK kvs) ∧ kvs.map (·.1) = ks.map Sum.inl ∧ ks.length < 64 ∧
    ∀ (ys : List Int) (p : Addr), ys.Perm ks → ys.Pairwise (· ≤ ·) → H p = none → Q (.ref p) (upd H p (.lst (ys.map V.int))))) ∨ rSD K xs H Q) gSorted := fun F H xs as l Q s r e q => by
  unfold gSorted at e
  split at e
  · rename_i l0
    split at e
    · rename_i ns hn
      cases e
      exact .inl (.inl (co_sortedI F H xs [.lst l0] _ Q s r (by simp [gSortedI, hn]) q))
    · split at e
      · rename_i hs
        cases e
        obtain ⟨v, rfl, rv⟩ := r.one
        cases rv with
        | lst e1 r1 => exact .inr ⟨F, _, _, l0, rfl, s, SqL.of (s _ _ e1), r1, hs, fun p ys hp hl rs => q p ys F _ hp (Grow.addH s hp) (fresh_sub s hp) upd_same rs⟩
      · cases e
  · rename_i ks vs
    split at e
    · rename_i hk
      cases e
      exact .inl (.inr (co_sortedD F H xs [.dI ks vs] _ Q s r (by simp [gSortedD, hk]) q))
    · cases e
  · cases e
/-! ### min of tuples -/
section
variable {prog : Program} {w : World} {A : Around} {E : Value → Shared → Prop} {s : Shared}
theorem min_at {l : Addr} {vs : Array Value} {xs : List PyData} {as : List Addr} {Q : Value → Shared → Prop} (hh : A.handled = none) (hl : s.heap.IsList l vs) (hr : ReadsAll s.heap vs.toList xs as) (h0 : 0 < vs.size) (ha : AlikeAll xs) (hu : A.units + 1 + PyData.depthAll xs < cLine)
    (h : ∀ v h' tk, vs[argBest (fun i j => dataLt (xs.getD i .none) (xs.getD j .none)) (vs.size - 1)]? = some v → (∀ b o, s.heap.get? b = some o → h'.get? b = some o) → Q v { s with heap := h', toks := tk }) :
    wpAny (model prog w) A (call (.builtin "min") [.ref l]) Q E s := by
  refine call_min_walkH (iter_listW (A := A.in1) hh hl fun s₂ e W st hfp hw hk => ?_)
  refine ⟨_, _, _, _, _, _, _, s.heap, _, rfl, W, st, hfp, by omega, hw, hk, cmpIn_lt (A := A.in1) hr ha (by show A.units + 1 + _ < _; exact hu), fun v s' hP m => ?_⟩
  obtain ⟨h', tk, rfl, hk'⟩ := moved_old e rfl m
  exact h v h' tk hP hk'
end
/-- the first of the least -/
def minDD (d : D) (l : List D) : D := l.foldl (fun a y => if dataLt (toP y) (toP a) then y else a) d
def rMinD (K : PySem.W.Frag) : List V → Hp → VK → Prop := fun vs H Q => ∃ F a xs d dl, vs = [.ref a] ∧ Evl.Ex F H ∧ SqL K H a xs ∧ Reps K F xs (d :: dl) ∧ sortable (d :: dl) = true ∧ ∀ v, Rep K F v (minDD d dl) → Q v H
theorem depthAll_le {n : Nat} : ∀ {l : List D}, (∀ d ∈ l, dok n d = true) → PyData.depthAll (l.map toP) ≤ n
  | [], _ => Nat.zero_le _
  | d :: r, h => by
    have h1 := (dok_lay n d (h d (by simp))).2
    have h2 := depthAll_le fun z hz => h z (List.mem_cons_of_mem d hz)
    show max (toP d).depth (PyData.depthAll (r.map toP)) ≤ n
    omega
theorem cr_minD {X : Cx} (hc : X.calm = true) (hu : X.A.units + 65 < cLine) : CallR X (.builtin "min") (rMinD X.K) := by
  intro pins s σ H vs us Q I r h
  obtain ⟨F, a, xs, d, dl, rfl, sub, hs, rp, hk, q⟩ := h
  obtain ⟨its, rv, hl, hz⟩ := I.list hs
  obtain ⟨u, rfl, ru⟩ := vals1 r
  obtain rfl : u = Value.ref a := ru
  unfold sortable at hk
  simp only [Bool.and_eq_true] at hk
  obtain ⟨k1, k2, k3⟩ := hk
  have kd : ∀ z ∈ d :: dl, dok 7 z = true := by rw [doks_all] at k2; exact List.all_eq_true.mp k2
  obtain ⟨as, hr⟩ := Dp.readsAll I ((d :: dl).map toP) xs its (by rw [← toPs_map]; exact rp.dp sub k2) rv
  have hlen : its.length = dl.length + 1 := by rw [← rv.length, rp.length]; rfl
  have hal : AlikeAll ((d :: dl).map toP) := ⟨fun x hx y hy => by
    obtain ⟨z, hz, rfl⟩ := List.mem_map.mp hx
    obtain ⟨z', hz', rfl⟩ := List.mem_map.mp hy
    exact List.all_eq_true.mp (List.all_eq_true.mp k3 z hz) z' hz', fun x hx => by
    obtain ⟨z, hz, rfl⟩ := List.mem_map.mp hx
    have := List.all_eq_true.mp k1 z hz
    cases z <;> simp [tupB] at this
    exact fun e => by cases e⟩
  have hdep := depthAll_le kd
  refine min_at (vs := its.toArray) (I.ok.hd hc) hl.isList (by simpa using hr) (by simp; omega) hal (by omega) fun v h' tk hv hk' => ?_
  have sz : its.toArray.size - 1 = dl.length := by simp; omega
  rw [sz] at hv
  have ef : (fun i j => dataLt (((d :: dl).map toP).getD i .none) (((d :: dl).map toP).getD j .none)) = fun i j => (fun y a => dataLt (toP y) (toP a)) ((d :: dl).getD i .non) ((d :: dl).getD j .non) := by
    funext i j
    have g : ∀ i, ((d :: dl).map toP).getD i PyData.none = toP ((d :: dl).getD i .non) := fun i => by
      rw [List.getD_eq_getElem?_getD, List.getD_eq_getElem?_getD, List.getElem?_map]
      cases (d :: dl)[i]? <;> rfl
    rw [g i, g j]
  rw [ef] at hv
  obtain ⟨b1, b2⟩ := argBest_fold (fun y a => dataLt (toP y) (toP a)) (D.non) d dl dl.length (Nat.le_refl _)
  rw [List.take_length] at b2
  have hm : (d :: dl)[argBest (fun i j => (fun y a => dataLt (toP y) (toP a)) ((d :: dl).getD i .non) ((d :: dl).getD j .non)) dl.length]? = some (minDD d dl) := by
    have hlt : argBest (fun i j => (fun y a => dataLt (toP y) (toP a)) ((d :: dl).getD i .non) ((d :: dl).getD j .non)) dl.length < (d :: dl).length := by simp only [List.length_cons]; omega
    rw [List.getElem?_eq_getElem hlt]
    rw [List.getD_eq_getElem?_getD, List.getElem?_eq_getElem hlt] at b2
    exact congrArg some b2
  obtain ⟨x, hx, rx⟩ := rp.getd hm
  obtain ⟨v', hv', rxv⟩ := rv.get hx
  have : v = v' := by
    have e : its[argBest (fun i j => (fun y a => dataLt (toP y) (toP a)) ((d :: dl).getD i .non) ((d :: dl).getD j .non)) dl.length]? = some v := by simpa using hv
    rw [e] at hv'
    exact Option.some.inj hv'
  subst this
  exact ⟨x, H, I.kept hk', rxv, q x rx⟩
/-- min: ints, or tuples -/
def gMinD : List D → Option D
  | [.lst l] => (match asInts l with
    | some ns => (minI ns).map D.int
    | none => (match l with
      | d :: dl => if sortable (d :: dl) then some (minDD d dl) else none
      | [] => none))
  | [.int i, .int j] => some (.int (if j < i then j else i))
  | _ => none
theorem cs_minD {K : PySem.W.Frag} : CallS K (fun xs H Q => (rMin K xs H Q ∨ ∃ i j, xs = [.int i, .int j] ∧ Q (.int (if j < i then j else i)) H) ∨ rMinD K xs H Q) gMinD := fun F H xs as d Q s r e q => by
  unfold gMinD at e
  split at e
  · rename_i l0
    split at e
    · rename_i ns hn
      exact .inl (cs_min F H xs [.lst l0] d Q s r (by simp [gMin, hn, e]) q)
    · split at e
      · split at e
        · rename_i d0 dl _ hs
          cases e
          obtain ⟨v, rfl, rv⟩ := r.one
          cases rv with
          | lst e1 r1 => exact .inr ⟨F, _, _, d0, dl, rfl, s, SqL.of (s _ _ e1), r1, hs, fun v rv => q v F H (Grow.refl s) rv⟩
        · cases e
      · cases e
  · rename_i i j
    exact .inl (cs_min F H xs [.int i, .int j] d Q s r e q)
  · cases e
/-! ### < of data -/
def cmpOk (a b : D) : Bool := dok 8 a && (dok 8 b && (alike (toP a) (toP b) && (match a with | .tup _ => true | _ => false)))
def gLt : D → D → Option D
  | .int i, .int j => some (.bl (decide (i < j)))
  | a, b => if cmpOk a b then some (.bl (dataLt (toP a) (toP b))) else none
def rLtD (K : PySem.W.Frag) : R2 := fun x y H Q => ∃ d e, Dp K H x d ∧ Dp K H y e ∧ alike d e = true ∧ d ≠ .none ∧ d.depth ≤ 8 ∧ Q (.bl (dataLt d e)) H
theorem op_ltD {X : Cx} (hu : X.A.units + 65 < cLine) : OpR X (compareOp .Lt) (rLtD X.K) := by
  intro pins s σ H x y v u Q I rx ry h
  obtain ⟨d, e, hd, he, ha, hn, hdp, q⟩ := h
  obtain ⟨as, r1⟩ := Dp.reads I d x v hd rx
  obtain ⟨bs, r2⟩ := Dp.reads I e y u he ry
  exact lt_data r1 r2 ha hn (by have := Nat.min_le_left d.depth e.depth; omega) ⟨.bl _, H, I, rfl, q⟩
theorem ops_ltD {K : PySem.W.Frag} : OpS K (fun x y H Q => rI0 (fun i j => .bl (decide (i < j))) x y H Q ∨ rLtD K x y H Q) gLt := fun F H x y a b d Q s ra rb e q => by
  unfold gLt at e
  split at e
  · cases e
    cases ra
    cases rb
    exact .inl ⟨_, _, rfl, rfl, q _ F H (Grow.refl s) (.bl _)⟩
  · split at e
    · rename_i h
      cases e
      unfold cmpOk at h
      simp only [Bool.and_eq_true] at h
      obtain ⟨h1, h2, h3, h4⟩ := h
      refine .inr ⟨_, _, ra.dp s h1, rb.dp s h2, h3, ?_, (dok_lay 8 a h1).2, q _ F H (Grow.refl s) (.bl _)⟩
      cases a <;> simp at h4
      exact fun z => by cases z
    · cases e
section
variable {P : Program} {w : World} {K : PySem.W.Frag} {mg : Str → Option Value} {base : Heap} {X : Cx} {W : WX} {N : List Str} {sc : Scope} {k : Nat} {pos : Pos}
theorem de_lt {a b : Expr} {fa fb : DL.Env → R D} (hu : X.A.units + 65 < cLine) (ha : DE X W a fa) (hb : DE X W b fb) : DE X W (.Compare a [.Lt] [b] pos) (op2 gLt fa fb) := de_cmp (op_lt.or (op_ltD hu)) ops_ltD ha hb (nomark _)
theorem dt_lt {a b : Expr} {fa fb : DL.Env → R D} (hu : X.A.units + 65 < cLine) (ha : DE X W a fa) (hb : DE X W b fb) : DT X W (.Compare a [.Lt] [b] pos) (asB (op2 gLt fa fb)) := dt_cmp (op_lt.or (op_ltD hu)) ops_ltD ha hb (nomark _)
variable {e : Expr} {es : List Expr} {p : Pos} {as : DL.Env → R (List D)}
theorem xsorted (C : Ctx P w K mg base X W N sc k) (hm : mg "sorted" = none) (hg : glB sc "sorted" = true) (ha : DA X W (e :: es) as) (he : starEach (e :: es) X.env = (false, eval e X.env) :: starEach es X.env := by rfl) (hpl : (backTo pos (starEach es X.env)).any (·.1) = false := by rfl) :
    DO X W (.Call (.Name "sorted" p) (e :: es) [] pos) (oCall gSorted as) := do_callB ((cr_sortedI.or (call_sortedDI C.calm)).or (cr_sortedDat C.hu)) co_sorted (C.gl hg) (C.no hm) (by decide +kernel) ha (he := he) (hpl := hpl)
theorem xminD (C : Ctx P w K mg base X W N sc k) (hm : mg "min" = none) (hg : glB sc "min" = true) (ha : DA X W (e :: es) as) (he : starEach (e :: es) X.env = (false, eval e X.env) :: starEach es X.env := by rfl) (hpl : (backTo pos (starEach es X.env)).any (·.1) = false := by rfl) :
    DE X W (.Call (.Name "min" p) (e :: es) [] pos) (eArgs gMinD as) := de_callB (((cr_min C.calm).or (call_min2 C.calm)).or (cr_minD C.calm C.hu)) cs_minD (C.gl hg) (C.no hm) (by decide +kernel) ha (he := he) (hpl := hpl)
end
end DL

set_option Elab.async false
set_option linter.all false
set_option maxRecDepth 100000
set_option maxHeartbeats 1000000
/-! An own list read within an expression: taken as frozen for that while. -/
namespace DL
variable [Tabs]
open PySem L2
open Evl (Ex)
mutual
/-- no list, no dict within -/
def noL : D → Bool
  | .non => true
  | .bl _ => true
  | .int _ => true
  | .str _ => true
  | .ty _ => true
  | .ref _ => true
  | .tup l => noLs l
  | _ => false
def noLs : List D → Bool
  | [] => true
  | d :: r => noL d && noLs r
end
def erase (F : Hp) (a : Addr) : Hp := fun b => if b = a then none else F b
mutual
theorem Rep.erase {K : PySem.W.Frag} {F : Hp} {a : Addr} {xs : List V} (ha : F a = some (.lst xs)) : ∀ {v : V} {d : D}, Rep K F v d → noL d = true → Rep K (erase F a) v d
  | _, _, .non, _ => .non
  | _, _, .bl b, _ => .bl b
  | _, _, .int i, _ => .int i
  | _, _, .str x, _ => .str x
  | _, _, .ty n, _ => .ty n
  | _, _, .ref b, _ => .ref b
  | _, _, .tup (a := b) h r, hn => .tup (by
      have : b ≠ a := fun e => by
        subst e
        rw [ha] at h
        cases h
      unfold DL.erase
      rw [if_neg this]
      exact h) (Reps.erase ha r (by simpa [noL] using hn))
  | _, _, .lst _ _, hn => by simp [noL] at hn
  | _, _, .scr _, hn => by simp [noL] at hn
  | _, _, .dI _ _ _, hn => by simp [noL] at hn
  | _, _, .dT _ _ _, hn => by simp [noL] at hn
  | _, _, .any _, hn => by simp [noL] at hn
  | _, _, .clo _ _ _ _, hn => by simp [noL] at hn
  | _, _, .fn _ _, hn => by simp [noL] at hn
  | _, _, .ins _ _ _ _, hn => by simp [noL] at hn
theorem Reps.erase {K : PySem.W.Frag} {F : Hp} {a : Addr} {xs : List V} (ha : F a = some (.lst xs)) : ∀ {vs : List V} {ds : List D}, Reps K F vs ds → noLs ds = true → Reps K (erase F a) vs ds
  | _, _, .nil, _ => .nil
  | _, _, .cons r t, hn => by
    rw [noLs, Bool.and_eq_true] at hn
    exact .cons (Rep.erase ha r hn.1) (Reps.erase ha t hn.2)
end
theorem Grow.erase {F H F1 H1 : Hp} {a : Addr} {u : HO} (fa : F a = none) (hu : H a = some u) (hn : ∀ xs, u ≠ .tup xs) (hx : ∀ φ, u ≠ .ext φ) (g : Grow (upd F a u) H F1 H1) : Grow F H (erase F1 a) H1 ∧ F1 a = some u := by
  have e1 : F1 a = some u := (g.new a u hu hn).trans upd_same
  refine ⟨⟨fun b o h => ?_, fun b o h => ?_, fun b o h => ?_, fun b o h hb => ?_⟩, e1⟩
  · have : b ≠ a := fun e => by rw [e, fa] at h; cases h
    unfold DL.erase
    rw [if_neg this]
    exact g.ef b o (by rw [upd_ne this]; exact h)
  · rcases g.eh b o h with z | ⟨ps, ps', z1, z2, z3⟩
    · exact .inl z
    · refine .inr ⟨ps, ps', z1, z2, fun t => ?_⟩
      have t' := z3 (t.ex (Ex.new fa))
      refine ⟨t'.1, fun pos cv hc => ?_⟩
      obtain ⟨c, y1, y2⟩ := t'.2 pos cv hc
      refine ⟨c, y1, ?_⟩
      unfold DL.erase
      rw [if_neg (fun e => by rw [e, e1] at y2; exact hx _ (Option.some.inj y2)), y2]
  · unfold DL.erase at h
    split at h
    · cases h
    · exact g.sub b o h
  · unfold DL.erase
    by_cases e : b = a
    · rw [if_pos e, e, fa]
    · rw [if_neg e, g.new b o h hb, upd_ne e]
section
variable {X : Cx} {W : WX} {pos : Pos}
/-- f, the own list in slot i read as a value -/
def eThaw (i : Nat) (f : Env → R D) : Env → R D := fun ρ => match ρ[i]? with
  | some (.own (.lst ds)) => (match f (ρ.set i (.val (.lst ds))) with
    | .ok d => if noL d then .ok d else .bad
    | .exc c => .exc c
    | .bad => .bad)
  | _ => .bad
def bThaw (i : Nat) (f : Env → R Bool) : Env → R Bool := fun ρ => match ρ[i]? with
  | some (.own (.lst ds)) => f (ρ.set i (.val (.lst ds)))
  | _ => .bad
theorem Srep.thaw {K : PySem.W.Frag} {F0 H0 F H : Hp} {σ : L2.St} {ρ : Env} (S : Srep K F0 H0 F H σ ρ) {i : Nat} {ds : List D} (hi : ρ[i]? = some (.own (.lst ds))) : ∃ a xs, F a = none ∧ H a = some (.lst xs) ∧ Srep K F0 H0 (upd F a (.lst xs)) H σ (ρ.set i (.val (.lst ds))) := by
  obtain ⟨a, u, e1, e2, e3, e4, e5⟩ := id (S.own i _ hi)
  obtain ⟨xs, rfl, r⟩ := id e5
  refine ⟨a, xs, e2, e4, S.frz (d := .lst ds) hi e1 (Ex.new e2) (fun b x hb => ?_) (fun b nb => ⟨upd_ne nb, rfl⟩) (rep_frzL e2 e5)⟩
  by_cases e : b = a
  · subst e; rw [upd_same] at hb; rw [e4]; exact hb
  · rw [upd_ne e] at hb; exact S.sub b x hb
theorem thaw_bad {ρ : Env} {i : Nat} {f : Env → R D} (h : ¬ ∃ ds, ρ[i]? = some (.own (.lst ds))) : eThaw i f ρ = .bad := by
  unfold eThaw
  split
  · rename_i ds hi
    exact absurd ⟨ds, hi⟩ h
  · rfl
theorem thaw_badB {ρ : Env} {i : Nat} {f : Env → R Bool} (h : ¬ ∃ ds, ρ[i]? = some (.own (.lst ds))) : bThaw i f ρ = .bad := by
  unfold bThaw
  split
  · rename_i ds hi
    exact absurd ⟨ds, hi⟩ h
  · rfl
theorem de_thaw {e : Expr} {f : Env → R D} (i : Nat) (h : DE X W e f) : DE X W e (eThaw i f) := by
  refine pe_imp h fun σ H Q ⟨F0, H0, F, ρ, S, q⟩ => ?_
  by_cases hx : ∃ ds, ρ[i]? = some (.own (.lst ds))
  · obtain ⟨ds, hi⟩ := hx
    have ee : eThaw i f ρ = (match f (ρ.set i (.val (.lst ds))) with
      | .ok d => if noL d then .ok d else .bad
      | .exc c => .exc c
      | .bad => .bad) := by
      unfold eThaw
      rw [hi]
    rw [ee] at q
    obtain ⟨a, xs, fa, ha, S2⟩ := S.thaw hi
    refine ⟨F0, H0, _, _, S2, ?_⟩
    cases ef : f (ρ.set i (.val (.lst ds))) with
    | bad => rw [ef] at q; exact q.elim
    | exc c =>
      rw [ef] at q
      exact fun F1 H1 g => q _ H1 (g.erase fa ha (fun _ z => by cases z) (fun _ z => by cases z)).1
    | ok d =>
      rw [ef] at q
      by_cases hn : noL d = true
      · simp only [hn, if_true] at q
        intro v F1 H1 g r
        obtain ⟨g1, e1⟩ := g.erase fa ha (fun _ z => by cases z) (fun _ z => by cases z)
        exact q v _ H1 g1 (r.erase e1 hn)
      · simp only [hn] at q
        exact q.elim
  · rw [thaw_bad hx] at q
    exact q.elim
theorem dt_thaw {e : Expr} {f : Env → R Bool} (i : Nat) (h : DT X W e f) : DT X W e (bThaw i f) := by
  refine pt_imp h fun σ H Q ⟨F0, H0, F, ρ, S, q⟩ => ?_
  by_cases hx : ∃ ds, ρ[i]? = some (.own (.lst ds))
  · obtain ⟨ds, hi⟩ := hx
    have ee : bThaw i f ρ = f (ρ.set i (.val (.lst ds))) := by
      unfold bThaw
      rw [hi]
    rw [ee] at q
    obtain ⟨a, xs, fa, ha, S2⟩ := S.thaw hi
    refine ⟨F0, H0, _, _, S2, ?_⟩
    cases ef : f (ρ.set i (.val (.lst ds))) with
    | bad => rw [ef] at q; exact q.elim
    | exc c =>
      rw [ef] at q
      exact fun F1 H1 g => q _ H1 (g.erase fa ha (fun _ z => by cases z) (fun _ z => by cases z)).1
    | ok b =>
      rw [ef] at q
      exact fun F1 H1 g => q _ H1 (g.erase fa ha (fun _ z => by cases z) (fun _ z => by cases z)).1
  · rw [thaw_badB hx] at q
    exact q.elim
@[simp] theorem ev_eThaw {ρ : Env} (i : Nat) (f : Env → R D) : eThaw i f ρ = (match ρ[i]? with
  | some (.own (.lst ds)) => (match f (ρ.set i (.val (.lst ds))) with
    | .ok d => if noL d then .ok d else .bad
    | .exc c => .exc c
    | .bad => .bad)
  | _ => .bad) := rfl
@[simp] theorem ev_bThaw {ρ : Env} (i : Nat) (f : Env → R Bool) : bThaw i f ρ = (match ρ[i]? with
  | some (.own (.lst ds)) => f (ρ.set i (.val (.lst ds)))
  | _ => .bad) := rfl
end
end DL

set_option Elab.async false
set_option linter.all false
set_option maxRecDepth 100000
set_option maxHeartbeats 1000000
/-! Dicts: reading, asking, storing, walking. -/
namespace DL
variable [Tabs]
open PySem L2
open Evl (Ex)
section
variable {X : Cx} {W : WX} {pos : Pos} {K : PySem.W.Frag}
theorem pe_or2 {e : Expr} {t u : TE} (h1 : PE X e t) (h2 : PE X e u) : PE X e (fun σ H Q => t σ H Q ∨ u σ H Q) := ⟨fun pins s σ H Q I hw => hw.elim (h1.run pins s σ H Q I) (h2.run pins s σ H Q I)⟩
theorem pi_or2 {tg e : Expr} {t u : TI} (h1 : PI X tg e t) (h2 : PI X tg e u) : PI X tg e (fun σ H R => t σ H R ∨ u σ H R) := ⟨fun pins s σ H R I hw => hw.elim (h1.run pins s σ H R I) (h2.run pins s σ H R I)⟩
/-! ### a dict's content, an own one's or a frozen one's -/
/-- what stands in a dict: None: it isn't one, or the key isn't of its kind -/
def lookD : D → D → Option (Option D)
  | .dT ks vs, .tup l => (asInts l).map fun k => getD' ks vs k
  | .dI ks vs, .int k => some (getD' ks vs k)
  | _, _ => none
def lookO : Ow → D → Option (Option D)
  | .dT ks vs, .tup l => (asInts l).map fun k => getD' ks vs k
  | .dI ks vs, .int k => some (getD' ks vs k)
  | _, _ => none
theorem kV_ints (ks : List Int) : ks.map V.int = (ks.map Sum.inl).map kV := by
  rw [List.map_map]
  rfl
theorem key_tup {F H : Hp} {v : V} {l : List D} {ks : List Int} (s : Ex F H) (r : Rep K F v (.tup l)) (h : asInts l = some ks) : ∃ b, v = .ref b ∧ H b = some (.tup ((ks.map Sum.inl).map kV)) := by
  cases r with
  | @tup b xs _ e r =>
    have := asInts_eq h
    subst this
    refine ⟨b, rfl, ?_⟩
    rw [← kV_ints, ← r.of_ints]
    exact s _ _ e
def ResOk (K : PySem.W.Frag) (F1 : Hp) (rv : Option V) : Option D → Prop
  | some d => ∃ v, rv = some v ∧ Rep K F1 v d
  | none => rv = none
theorem look_own {F F1 H1 : Hp} {u : HO} {a : Addr} {o : Ow} {y : V} {k : D} {r : Option D} (hu : H1 a = some u) (ow : OwRep K F u o) (ef : Ex F F1) (s1 : Ex F1 H1) (rk : Rep K F1 y k) (h : lookO o k = some r) :
    ∃ rv, DGet H1 a y rv ∧ ResOk K F1 rv r := by
  unfold lookO at h
  split at h
  · rename_i ks vs l
    cases ea : asInts l with
    | none => rw [ea] at h; cases h
    | some key =>
      rw [ea] at h
      have h : getD' ks vs key = r := Option.some.inj h
      obtain ⟨kvs, rfl, hk, rv⟩ := ow
      obtain ⟨b, rfl, hb⟩ := key_tup s1 rk ea
      obtain ⟨g1, g2⟩ := get_rep (κ' := List Key) (f := fun l => l.map Sum.inl) inls_inj (k := key) hk rv
      refine ⟨valV kvs (key.map Sum.inl), .inr ⟨kvs, _, b, .inl hu, rfl, hb, rfl⟩, ?_⟩
      cases r with
      | none => exact g2 h
      | some d =>
        obtain ⟨v, e1, e2⟩ := g1 d h
        exact ⟨v, e1, e2.ex ef⟩
  · rename_i ks vs key
    have h : getD' ks vs key = r := Option.some.inj h
    obtain ⟨kvs, rfl, hk, rv⟩ := ow
    cases rk
    obtain ⟨g1, g2⟩ := get_rep (κ' := Key) (f := Sum.inl) inl_inj (k := key) hk rv
    refine ⟨valV kvs (Sum.inl key), .inl ⟨kvs, Sum.inl key, .inl hu, rfl, rfl⟩, ?_⟩
    cases r with
    | none => exact g2 h
    | some d =>
      obtain ⟨v, e1, e2⟩ := g1 d h
      exact ⟨v, e1, e2.ex ef⟩
  · cases h
theorem look_val {F1 H1 : Hp} {x y : V} {c k : D} {r : Option D} (s1 : Ex F1 H1) (rc : Rep K F1 x c) (rk : Rep K F1 y k) (h : lookD c k = some r) :
    ∃ a rv, x = .ref a ∧ DGet H1 a y rv ∧ ResOk K F1 rv r := by
  unfold lookD at h
  split at h
  · rename_i ks vs l
    cases ea : asInts l with
    | none => rw [ea] at h; cases h
    | some key =>
      rw [ea] at h
      have h : getD' ks vs key = r := Option.some.inj h
      obtain ⟨b, rfl, hb⟩ := key_tup s1 rk ea
      cases rc with
      | @dT a o kvs _ _ e hk rv =>
        obtain ⟨g1, g2⟩ := get_rep (κ' := List Key) (f := fun l => l.map Sum.inl) inls_inj (k := key) hk rv
        refine ⟨a, valV kvs (key.map Sum.inl), rfl, .inr ⟨kvs, _, b, .inr ⟨o, s1 _ _ e⟩, rfl, hb, rfl⟩, ?_⟩
        cases r with
        | none => exact g2 h
        | some d => exact g1 d h
  · rename_i ks vs key
    have h : getD' ks vs key = r := Option.some.inj h
    cases rk
    cases rc with
    | @dI a o kvs _ _ e hk rv =>
      obtain ⟨g1, g2⟩ := get_rep (κ' := Key) (f := Sum.inl) inl_inj (k := key) hk rv
      refine ⟨a, valV kvs (Sum.inl key), rfl, .inl ⟨kvs, Sum.inl key, .inr ⟨o, s1 _ _ e⟩, rfl, rfl⟩, ?_⟩
      cases r with
      | none => exact g2 h
      | some d => exact g1 d h
  · cases h
/-! ### d[k], d a frozen dict, a list, a tuple -/
def gIxD (a b : D) : Option D := match lookD a b with
  | some r => r
  | none => gIx a b
theorem de_ixD {a b : Expr} {fa fb : Env → R D} (hu : X.A.units + 65 < cLine) (ha : DE X W a fa) (hb : DE X W b fb) (hs : PlainIx b := by exact fun _ _ => rfl) : DE X W (.Subscript a b pos) (op2 gIxD fa fb) := by
  refine pe_imp (pe_or2 (pe_ix (ix_list.or ix_tup) ha hb hs) (pe_dget (by omega) ha hb hs)) fun σ H Q h => ?_
  obtain ⟨F0, H0, F, ρ, S, q⟩ := h
  have mk : tD X.K W (op2 gIxD fa fb) σ H Q := ⟨F0, H0, F, ρ, S, q⟩
  unfold op2 at q
  cases ea : fa ρ with
  | bad => rw [ea] at q; exact q.elim
  | exc c => rw [ea] at q; exact .inl (tD_exc S ea q)
  | ok da =>
    rw [ea, R.bind_ok] at q
    cases eb : fb ρ with
    | bad => rw [eb] at q; exact q.elim
    | exc c =>
      rw [eb] at q
      exact .inl (tD_ok S ea fun v F1 H1 g1 r1 => tD_exc (S.go g1) eb fun F2 H2 g2 => q F2 H2 (g1.trans g2))
    | ok db =>
      rw [eb, R.bind_ok] at q
      cases el : lookD da db with
      | some r =>
        right
        refine tD_ok S ea fun v F1 H1 g1 r1 => tD_ok (S.go g1) eb fun y F2 H2 g2 r2 => ?_
        obtain ⟨a', rv, rfl, dg, hr⟩ := look_val g2.sub (r1.ex g2.ef) r2 el
        have eg : gIxD da db = r := by unfold gIxD; rw [el]
        rw [eg] at q
        cases r with
        | none => exact q.elim
        | some d =>
          obtain ⟨v', rfl, rd⟩ := hr
          exact ⟨a', v', rfl, dg, q v' F2 H2 (g1.trans g2) rd⟩
      | none =>
        left
        have eg : gIxD da db = gIx da db := by unfold gIxD; rw [el]
        rw [eg] at q
        exact op2_of (W := W) (fa := fa) (fb := fb) ops_ix ⟨F0, H0, F, ρ, S, by
          unfold op2
          rw [ea, R.bind_ok, eb, R.bind_ok]
          exact q⟩
/-! ### d[k], d an own dict -/
def eDgO (i : Nat) (fk : Env → R D) : Env → R D := fun ρ => match ρ[i]? with
  | some (.own o) => (fk ρ).bind fun k => match lookO o k with
    | some (some d) => .ok d
    | _ => .bad
  | _ => .bad
theorem de_dgO {i : Nat} {x : Str} {p : Pos} {b : Expr} {fk : Env → R D} (hu : X.A.units + 65 < cLine) (hx : PE X (.Name x p) (tVar i)) (hb : DE X W b fk) (hs : PlainIx b := by exact fun _ _ => rfl) : DE X W (.Subscript (.Name x p) b pos) (eDgO i fk) := by
  refine pe_imp (pe_dget (by omega) hx hb hs) fun σ H Q ⟨F0, H0, F, ρ, S, q⟩ => ?_
  unfold eDgO at q
  cases hi : ρ[i]? with
  | none => rw [hi] at q; exact q.elim
  | some sl =>
    rw [hi] at q
    cases sl with
    | own o =>
      obtain ⟨a, u, e1, e2, e3, e4, e5⟩ := id (S.own i o hi)
      refine ⟨.ref a, e1, ?_⟩
      show tD X.K W fk σ H fun y H2 => ∃ a' v, V.ref a = .ref a' ∧ DGet H2 a' y (some v) ∧ Q v H2
      cases ek : fk ρ with
      | bad => simp only [ek, R.bind_bad] at q
      | exc c => simp only [ek, R.bind_exc] at q; exact tD_exc S ek q
      | ok k =>
        simp only [ek, R.bind_ok] at q
        refine tD_ok S ek fun y F1 H1 g1 r1 => ?_
        cases el : lookO o k with
        | none => simp only [el] at q
        | some r =>
          obtain ⟨rv, dg, hr⟩ := look_own (g1.eh.at e4 e5.notbl) e5 g1.ef g1.sub r1 el
          cases r with
          | none => simp only [el] at q
          | some d =>
            simp only [el] at q
            obtain ⟨v, rfl, rd⟩ := hr
            exact ⟨a, v, rfl, dg, q v F1 H1 g1 rd⟩
    | un => exact q.elim
    | val _ => exact q.elim
/-! ### k in d, k not in d -/
def eInO (neg : Bool) (i : Nat) (fk : Env → R D) : Env → R D := fun ρ => match ρ[i]? with
  | some (.own o) => (fk ρ).bind fun k => match lookO o k with
    | some r => .ok (.bl (r.isSome != neg))
    | none => .bad
  | _ => .bad
theorem inO_of {i : Nat} {fk : Env → R D} {neg : Bool} {σ : L2.St} {H : Hp} {Q : VK} (hh : tD X.K W (eInO neg i fk) σ H Q) : tD X.K W fk σ H fun y H1 => tVar i σ H1 fun x H2 => ∃ a o, x = .ref a ∧ DGet H2 a y o ∧ Q (.bl (o.isSome != neg)) H2 := by
  obtain ⟨F0, H0, F, ρ, S, q⟩ := hh
  unfold eInO at q
  cases hi : ρ[i]? with
  | none => rw [hi] at q; exact q.elim
  | some sl =>
    rw [hi] at q
    cases sl with
    | own o =>
      obtain ⟨a, u, e1, e2, e3, e4, e5⟩ := id (S.own i o hi)
      cases ek : fk ρ with
      | bad => simp only [ek, R.bind_bad] at q
      | exc c => simp only [ek, R.bind_exc] at q; exact tD_exc S ek q
      | ok k =>
        simp only [ek, R.bind_ok] at q
        refine tD_ok S ek fun y F1 H1 g1 r1 => ⟨.ref a, e1, ?_⟩
        cases el : lookO o k with
        | none => simp only [el] at q
        | some r =>
          simp only [el] at q
          obtain ⟨rv, dg, hr⟩ := look_own (g1.eh.at e4 e5.notbl) e5 g1.ef g1.sub r1 el
          refine ⟨a, rv, rfl, dg, ?_⟩
          have : rv.isSome = r.isSome := by
            cases r with
            | none => rw [hr]; rfl
            | some d => obtain ⟨v, rfl, _⟩ := hr; rfl
          rw [this]
          exact q _ F1 H1 g1 (.bl _)
    | un => exact q.elim
    | val _ => exact q.elim
theorem de_inO {i : Nat} {x : Str} {p : Pos} {b : Expr} {fk : Env → R D} (hu : X.A.units + 65 < cLine) (hx : PE X (.Name x p) (tVar i)) (hb : DE X W b fk) (hm : behindInMarks .In (.Name x p) = false := by rfl) : DE X W (.Compare b [.In] [.Name x p] pos) (eInO false i fk) :=
  pe_imp (pe_cmp (pc_din (by omega) hb hx) hm) fun σ H Q hh => by
    have := inO_of hh
    simp only [Bool.bne_false] at this
    exact this
theorem de_notInO {i : Nat} {x : Str} {p : Pos} {b : Expr} {fk : Env → R D} (hu : X.A.units + 65 < cLine) (hx : PE X (.Name x p) (tVar i)) (hb : DE X W b fk) (hm : behindInMarks .NotIn (.Name x p) = false := by rfl) : DE X W (.Compare b [.NotIn] [.Name x p] pos) (eInO true i fk) :=
  pe_imp (pe_cmp (pc_dnotin (by omega) hb hx) hm) fun σ H Q hh => by
    have := inO_of hh
    simp only [Bool.bne_true] at this
    exact this
/-! ### d[k] = v -/
def putO : Ow → D → D → Option Ow
  | .dT ks vs, .tup l, v => (asInts l).bind fun k => if ks.length < 100000 then some (.dT (putD ks vs k v).1 (putD ks vs k v).2) else none
  | .dI ks vs, .int k, v => if ks.length < 100000 then some (.dI (putD ks vs k v).1 (putD ks vs k v).2) else none
  | _, _, _ => none
def sPut (i : Nat) (fk fv : Env → R D) : SD := sE fv fun v ρ => match ρ[i]? with
  | some (.own o) => sE fk (fun k ρ => match putO o k v with
    | some o' => some (.nx (ρ.set i (.own o')))
    | none => none) ρ
  | _ => none
theorem put_own {F H1 : Hp} {u : HO} {a : Addr} {o o' : Ow} {y z : V} {k d : D} (hu : H1 a = some u) (ow : OwRep K F u o) (s1 : Ex F H1) (rk : Rep K F y k) (rz : Rep K F z d) (h : putO o k d = some o') : ∃ u', DPut H1 a y z (upd H1 a u') ∧ OwRep K F u' o' := by
  unfold putO at h
  split at h
  · rename_i ks vs l
    cases ea : asInts l with
    | none => rw [ea] at h; cases h
    | some key =>
      rw [ea, Option.bind_some] at h
      split at h
      · rename_i hl
        cases h
        obtain ⟨kvs, rfl, hk, rv⟩ := ow
        obtain ⟨b, rfl, hb⟩ := key_tup s1 rk ea
        have hlen : kvs.length = ks.length := by
          have := congrArg List.length hk
          simpa using this
        obtain ⟨p1, p2⟩ := put_rep (κ' := List Key) (fun l => l.map Sum.inl) inls_inj (k := key) rz hk rv
        exact ⟨.dT (putK kvs (key.map Sum.inl) z), DPut.t hu hb (by rw [hlen]; exact szlt hl), _, rfl, p1, p2⟩
      · cases h
  · rename_i ks vs key
    split at h
    · rename_i hl
      cases h
      obtain ⟨kvs, rfl, hk, rv⟩ := ow
      cases rk
      have hlen : kvs.length = ks.length := by
        have := congrArg List.length hk
        simpa using this
      obtain ⟨p1, p2⟩ := put_rep (κ' := Key) Sum.inl inl_inj (k := key) rz hk rv
      exact ⟨.dK (putK kvs (Sum.inl key) z), DPut.k (k := Sum.inl key) hu (by rw [hlen]; exact szlt hl), _, rfl, p1, p2⟩
    · cases h
  · cases h
theorem ds_put {i : Nat} {x : Str} {p pos' : Pos} {b value : Expr} {fk fv : Env → R D} (hu : X.A.units + 65 < cLine) (hx : PE X (.Name x p) (tVar i)) (hb : DE X W b fk) (hv : DE X W value fv) (hs : swapsWith value (some (.Subscript (.Name x p) b pos')) pos.line X.env = pure false := by rfl) :
    DS X W (.Assign [.Subscript (.Name x p) b pos'] value pos) (sPut i fk fv) := by
  refine ps_imp (ps_dput (by omega) hx hb hv hs) fun E σ H hh => ?_
  refine sE_of hh fun F0 H0 F ρ d v F1 H1 S g1 rv q => ?_
  cases hi : ρ[i]? with
  | none => rw [hi] at q; exact q.elim
  | some sl =>
    rw [hi] at q
    cases sl with
    | own o =>
      have S1 := S.go g1
      obtain ⟨a, u, e1, e2, e3, e4, e5⟩ := id (S1.own i o hi)
      refine ⟨.ref a, e1, ?_⟩
      show tD X.K W fk σ H1 fun y H3 => ∃ a' H4, V.ref a = .ref a' ∧ DPut H3 a' y v H4 ∧ E.nx σ H4
      unfold sE at q
      cases ek : fk ρ with
      | bad => simp only [ek] at q; exact q.elim
      | exc c => simp only [ek] at q; exact tD_exc S1 ek fun F2 H2 g2 => q σ F2 H2 g2.ef (S1.go g2)
      | ok k =>
        simp only [ek] at q
        refine tD_ok S1 ek fun y F2 H2 g2 rk => ?_
        cases ep : putO o k d with
        | none => simp only [ep] at q; exact q.elim
        | some o' =>
          simp only [ep] at q
          obtain ⟨u', dp, ow'⟩ := put_own (g2.eh.at e4 e5.notbl) (e5.ex g2.ef) g2.sub rk (rv.ex g2.ef) ep
          exact ⟨a, _, rfl, dp, q σ F2 _ g2.ef ((S1.go g2).mutate hi e1 ow')⟩
    | un => exact q.elim
    | val _ => exact q.elim
/-! ### {}, and walking a frozen dict -/
def oNew : Env → R Ow := fun _ => .ok (.dT [] [])
theorem do_newT : DO X W (.Dict [] [] pos) oNew := pe_imp pe_dnewT fun σ H Q ⟨F0, H0, F, ρ, S, q⟩ => fun p hp => q p _ F _ hp (Grow.addH S.sub hp) (fresh_sub S.sub hp) upd_same ⟨[], rfl, rfl, .nil⟩
theorem good_keysT {F : Hp} {a : Addr} {o : Obj} {kvs : List (List Key × V)} {ks : List (List Int)} (h : F a = some (.frz o (.dT kvs))) (hk : kvs.map (·.1) = ks.map (·.map Sum.inl)) : GoodF K (Itkt a o kvs) F (ks.map fun k => .tup (k.map D.int)) := by
  have hl : kvs.length = ks.length := by
    have := congrArg List.length hk
    simpa using this
  refine ⟨fun i F' H' e s hi => ⟨s _ _ (e _ _ h), by simpa [hl] using hi⟩, fun F' H' e s => ⟨s _ _ (e _ _ h), by simp [hl]⟩, fun i F' H' x H'' e s hi y => ?_⟩
  obtain ⟨e1, k, v, q, e2, e3, e4⟩ := y
  subst e1 e3
  have e5 : (kvs.map (·.1))[i]? = some k := by rw [List.getElem?_map, e2]; rfl
  rw [hk, List.getElem?_map] at e5
  cases e6 : ks[i]? with
  | none => rw [e6] at e5; cases e5
  | some ki =>
    rw [e6] at e5
    have e7 : ki.map Sum.inl = k := Option.some.inj e5
    subst e7
    rw [← kV_ints] at e4
    have ex : Ex F' (upd F' q (.tup (ki.map V.int))) := fun b u hb => by
      by_cases z : b = q
      · subst z
        rw [upd_same]
        have := s _ _ hb
        rw [e4] at this
        exact this
      · rw [upd_ne z]; exact hb
    refine ⟨upd F' q (.tup (ki.map V.int)), .tup (ki.map D.int), by rw [List.getElem?_map, e6]; rfl, ⟨ex, .refl, fun b u hb => ?_, fun b u hb hn => ?_⟩, .tup upd_same (Reps.ints ki)⟩
    · by_cases z : b = q
      · subst z; rw [upd_same] at hb; rw [← hb]; exact e4
      · rw [upd_ne z] at hb; exact s _ _ hb
    · by_cases z : b = q
      · subst z
        rw [e4] at hb
        exact absurd (Option.some.inj hb).symm (hn _)
      · rw [upd_ne z]
theorem good_keysI {F : Hp} {a : Addr} {o : Obj} {kvs : List (Key × V)} {ks : List Int} (h : F a = some (.frz o (.dK kvs))) (hk : kvs.map (·.1) = ks.map Sum.inl) : GoodF K (Itk a o kvs) F (ks.map D.int) := by
  have hl : kvs.length = ks.length := by
    have := congrArg List.length hk
    simpa using this
  refine ⟨fun i F' H' e s hi => ⟨s _ _ (e _ _ h), by simpa [hl] using hi⟩, fun F' H' e s => ⟨s _ _ (e _ _ h), by simp [hl]⟩, fun i F' H' x H'' e s hi y => ?_⟩
  obtain ⟨e1, k, v, e2, e3⟩ := y
  subst e1 e3
  have e5 : (kvs.map (·.1))[i]? = some k := by rw [List.getElem?_map, e2]; rfl
  rw [hk, List.getElem?_map] at e5
  cases e6 : ks[i]? with
  | none => rw [e6] at e5; cases e5
  | some ki =>
    rw [e6] at e5
    have e7 : Sum.inl ki = k := Option.some.inj e5
    subst e7
    exact ⟨F', .int ki, by rw [List.getElem?_map, e6]; rfl, Grow.refl s, .int ki⟩
/-- what a walk over it yields -/
def itemsA : D → R (List D)
  | .dT ks _ => .ok (ks.map fun k => .tup (k.map D.int))
  | .dI ks _ => .ok (ks.map D.int)
  | d => itemsD d
def iSeqA (f : Env → R D) : Env → R (List D) := fun ρ => (f ρ).bind itemsA
theorem di_seqA {tg l : Expr} {f : Env → R D} (hl : DE X W l f) : DI X W tg l (iSeqA f) := by
  refine pi_imp (pi_or2 (di_seq hl) (pi_keys hl)) fun σ H Q ⟨F0, H0, F, ρ, S, q⟩ => ?_
  unfold iSeqA at q
  cases ef : f ρ with
  | bad => rw [ef] at q; exact q.elim
  | exc c => rw [ef] at q; exact .inl ⟨F0, H0, F, ρ, S, by unfold iSeqD; rw [ef]; exact q⟩
  | ok d =>
    rw [ef, R.bind_ok] at q
    cases d with
    | dT ks vs =>
      right
      refine tD_ok S ef fun v F1 H1 g1 r1 => ?_
      cases r1 with
      | @dT a o kvs _ _ e hk rv => exact ⟨a, o, rfl, .inr ⟨kvs, g1.sub _ _ e, q _ F1 H1 g1 (good_keysT e hk)⟩⟩
    | dI ks vs =>
      right
      refine tD_ok S ef fun v F1 H1 g1 r1 => ?_
      cases r1 with
      | @dI a o kvs _ _ e hk rv => exact ⟨a, o, rfl, .inl ⟨kvs, g1.sub _ _ e, q _ F1 H1 g1 (good_keysI e hk)⟩⟩
    | _ => exact .inl ⟨F0, H0, F, ρ, S, by unfold iSeqD; rw [ef, R.bind_ok]; exact q⟩
end
end DL

set_option Elab.async false
set_option linter.all false
set_option maxRecDepth 100000
set_option maxHeartbeats 1000000
/-! {t: v}, dict(d), sorted(d), d.get(t): dicts by tuples. -/
namespace DL
variable [Tabs]
open PySem PySem.Spec PyProof.Rows L2
section
variable {X : Cx} {pos : Pos}
/-- {k: v}, k a tuple -/
def tDisp1 (tk tv : TE) : TE := fun σ H Q => ∀ p, H p = none → tk σ (upd H p (.dT [])) fun x H1 => tv σ H1 fun y H2 => ∃ b ks, x = .ref b ∧ H2 b = some (.tup (ks.map kV)) ∧ H2 p = some (.dT []) ∧ Q (.ref p) (upd H2 p (.dT [(ks, y)]))
theorem pe_disp1 {k v : Expr} {tk tv : TE} (hu : X.A.units + 1 < cLine) (hk : PE X k tk) (hv : PE X v tv) : PE X (.Dict [some k] [v] pos) (tDisp1 tk tv) := by
  refine ⟨fun pins s σ H Q I q => ?_⟩
  have hn := I.hok.fresh (Nat.le_refl s.heap.objs.size)
  have I1 := I.laid (a := s.heap.objs.size) (o := .dT []) (h' := s.heap.push { cls := .type "dict", data := .dict #[] }) (t' := s.toks) (fun _ _ q => Heap.get?_push_of_some _ q) (Nat.le_refl _) (dt_empty s.heap I.big)
  have hz := zip_pairTrees [some k] [v] X.env pos rfl rfl
  rw [arm_eval_Dict, hz, dictDisplay_pairs (pairTrees [some k] [v] X.env pos) (by simp [pairTrees]) (by simp [pairTrees])]
  refine wpAny_bind (wpAny_standAt (wpAny_bind (wpAny_subDictH (knd := tupleKind (mixKind X.prog X.w)) (by first | exact tupleKind_room (by omega) | (show X.A.units < cLine; omega)) (by simp [pairTrees]) ?_)))
  refine pairTrees_cons_walk (thn (hk.run pins _ σ _ _ I1 (q _ hn)) fun kv s1 ⟨x, H1, I2, rx, q1⟩ => thn (hv.run pins s1 σ H1 _ I2 q1) fun vv s2 ⟨y, H2, I3, ry, b, ks, ex, hb, hp, q2⟩ => pairTrees_nil_walk ?_)
  subst ex
  obtain rfl : kv = Value.ref b := rx
  obtain ⟨z, hd, xs0, r0, dd⟩ := dt_of I3.hok hp
  cases r0
  refine ⟨[(ks, b, vv)], ⟨rfl, rfl, key_of I3.hok hb, trivial⟩, dd, fun h' tk dd' hs => wpAny_pure ⟨.ref s.heap.objs.size, _, ?_, rfl, q2⟩⟩
  obtain ⟨o, es, ep, hq, h2, h3, h4, _, h5⟩ := dd'
  refine d_write I3 (by rw [hp]; exact True.intro) hs ⟨o, hq⟩ ⟨by rw [sizeLine_eq]; simp, hd, _, .cons ⟨rfl, ?_, ry⟩ .nil, o, es, ep, hq, h2, h3, h4, h5⟩
  show upd H2 s.heap.objs.size _ b = _
  rw [upd_ne (ne_of hb hp (fun z => nomatch z))]
  exact hb
end
section
variable {X : Cx} {W : WX} {pos : Pos}
def oDisp1 (fk fv : DL.Env → R D) : DL.Env → R Ow := fun ρ => (fk ρ).bind fun k => (fv ρ).bind fun v => match k with
  | .tup l => (match asInts l with
    | some ks => .ok (.dT [ks] [v])
    | none => .bad)
  | _ => .bad
theorem do_disp1 {k v : Expr} {fk fv : DL.Env → R D} (hu : X.A.units + 65 < cLine) (hk : DE X W k fk) (hv : DE X W v fv) : DO X W (.Dict [some k] [v] pos) (oDisp1 fk fv) := by
  refine pe_imp (pe_disp1 (by omega) hk hv) fun σ H Q ⟨F0, H0, F, ρ, S, q⟩ => ?_
  intro p hp
  have g0 : Grow F H F (upd H p (.dT [])) := Grow.addH S.sub hp
  have S0 := S.go g0
  have fp : F p = none := fresh_sub S.sub hp
  unfold oDisp1 at q
  cases ek : fk ρ with
  | bad => rw [ek] at q; exact q.elim
  | exc c => rw [ek] at q; exact tD_exc S0 ek fun F' H' g => q F' H' (g0.trans g)
  | ok dk =>
    rw [ek, R.bind_ok] at q
    refine tD_ok S0 ek fun x F1 H1 g1 r1 => ?_
    cases ev : fv ρ with
    | bad => rw [ev] at q; exact q.elim
    | exc c => rw [ev] at q; exact tD_exc (S0.go g1) ev fun F' H' g => q F' H' ((g0.trans g1).trans g)
    | ok dv =>
      rw [ev, R.bind_ok] at q
      refine tD_ok (S0.go g1) ev fun y F2 H2 g2 r2 => ?_
      cases dk with
      | tup l =>
        cases ea : asInts l with
        | none => simp only [ea] at q
        | some ks =>
          simp only [ea] at q
          obtain ⟨b, rfl, hb⟩ := key_tup g2.sub (r1.ex g2.ef) ea
          have g12 := g1.trans g2
          have hp2 : H2 p = some (.dT []) := g12.eh.at upd_same
          have fp2 : F2 p = none := (g12.new p _ upd_same (by intro xs z; cases z)).trans fp
          have G : Grow F H F2 H2 := (g0.trans g1).trans g2
          refine ⟨b, _, rfl, hb, hp2, q p _ F2 _ hp ⟨G.ef, G.eh.mut hp, fun a o h => ?_, G.new⟩ fp2 upd_same ⟨[(ks.map Sum.inl, y)], rfl, rfl, .cons r2 .nil⟩⟩
          rw [upd_ne (fun z => by rw [z, fp2] at h; cases h)]
          exact G.sub a o h
      | _ => exact q.elim
end
/-! ### sorted(d) -/
def tupI (k : List Int) : D := .tup (k.map D.int)
def leK (a b : List Int) : Bool := leD (tupI a) (tupI b)
def rSDT (K : PySem.W.Frag) : List V → Hp → VK → Prop := fun vs H Q => ∃ (a : Addr) (kvs : List (List Key × V)) (ks : List (List Int)), vs = [.ref a] ∧ Rd H a (.dT kvs) ∧ kvs.map (·.1) = ks.map (·.map Sum.inl) ∧
  ∀ p (bs : List Addr), H p = none → PySem.W.EachIs (fun (b : Addr) k => H b = some (.tup (k.map V.int))) bs (ks.mergeSort leK) → Q (.ref p) (upd H p (.lst (bs.map V.ref)))
theorem each_get {α β : Type} {R : α → β → Prop} : ∀ {as : List α} {bs : List β}, as.length = bs.length → (∀ (i : Nat) a b, as[i]? = some a → bs[i]? = some b → R a b) → PySem.W.EachIs R as bs
  | [], [], _, _ => .nil
  | a :: as, b :: bs, hl, h => .cons (h 0 a b rfl rfl) (each_get (by simpa using hl) fun i x y e1 e2 => h (i + 1) x y (by simpa using e1) (by simpa using e2))
  | [], _ :: _, hl, _ => by simp at hl
  | _ :: _, [], hl, _ => by simp at hl
theorem each_refs {H : Hp} : ∀ {us : List Value} {ks : List (List Int)}, PySem.W.EachIs (fun u k => ∃ b, u = Value.ref b ∧ H b = some (.tup (k.map V.int))) us ks → ∃ bs : List Addr, us = bs.map Value.ref ∧ PySem.W.EachIs (fun (b : Addr) k => H b = some (.tup (k.map V.int))) bs ks
  | _, _, .nil => ⟨[], rfl, .nil⟩
  | _, _, .cons ⟨b, e, h⟩ t => by
    obtain ⟨bs, e2, h2⟩ := each_refs t
    exact ⟨b :: bs, by rw [e, e2]; rfl, .cons h h2⟩
theorem paired_get {α β : Type} {F : α → β → Prop} : ∀ {l₁ : List α} {l₂ : List β} {j : Nat} {x : β}, Paired F l₁ l₂ → l₂[j]? = some x → ∃ y, l₁[j]? = some y ∧ F y x
  | _, _, _, _, .nil, h => by simp at h
  | _, _, 0, x, .cons r t, h => by
    have e := Option.some.inj h
    subst e
    exact ⟨_, rfl, r⟩
  | _, _, j + 1, x, .cons r t, h => by
    obtain ⟨y, h1, h2⟩ := paired_get (j := j) t (by simpa using h)
    exact ⟨y, by simpa using h1, h2⟩
theorem alikeK (a b : List Int) : PySem.W.alike (toP (tupI a)) (toP (tupI b)) = true := by
  have e : ∀ l : List Int, toP (tupI l) = .tuple (l.map PyData.int) := fun l => by
    show PyData.tuple (toPs (l.map D.int)) = _
    rw [toPs_map, List.map_map]
    rfl
  rw [e a, e b]
  have al : ∀ a b : List Int, PySem.W.alikeAll (a.map PyData.int) (b.map PyData.int) = true := by
    intro a
    induction a with
    | nil => intro b; simp [PySem.W.alikeAll]
    | cons x r ih =>
      intro b
      cases b with
      | nil => simp [PySem.W.alikeAll]
      | cons y t =>
        simp only [List.map_cons, PySem.W.alikeAll, ih t, Bool.and_true]
        rfl
  show PySem.W.alikeAll _ _ = true
  exact al a b
theorem cr_sortedDT {X : Cx} (hcalm : X.calm = true) (hu : X.A.units + 65 < cLine) : CallR X (.builtin "sorted") (rSDT X.K) := by
  intro pins s σ H vs us Q I r q
  obtain ⟨a, kvs, ks, rfl, hd, hks, q⟩ := q
  obtain ⟨u, rfl, ru⟩ := vals1 r
  obtain rfl : u = Value.ref a := ru
  obtain ⟨z, lo, xs, rel, o, es, ep, ho, hx, hdt, he, his, hn⟩ := dt_rd I.hok hd
  have hlx : kvs.length = xs.length := Paired.length rel
  have hlk : kvs.length = ks.length := by
    have := congrArg List.length hks
    simpa using this
  have hes : es.size = xs.length := by
    have := congrArg List.length he
    simpa using this
  refine Calls.call_function_entry PyProof.Rows.kind_sorted PyProof.Rows.plain_sorted PyProof.Rows.entry_sorted (PyProof.Rows.args_sorted1 _) ?_
  unfold Builtin.«sorted»
  refine wpAny_bind (m := checkCount "sorted" 1 1 _) (wpAny_pure ?_)
  refine wpAny_bind (PySem.W.kdu_collect (A := X.A.in1) (PySem.KdlSrc.rawDict (es := es) (ep := ep) lo) (I.ok.hd hcalm) ⟨o, ho, hx, hdt⟩ (by rw [hes, ← hlx]; exact z) fun h' tk acc hk hacc => ?_)
  have hal : acc.toList.length = ks.length := by rw [Array.length_toList, hacc.1, hes, ← hlx, hlk]
  have each : PySem.W.EachIs (fun u k => ∃ b, u = Value.ref b ∧ H b = some (.tup (k.map V.int))) acc.toList ks := each_get hal fun i v k e1 e2 => by
    obtain ⟨hi, ev⟩ := hacc.2 i v (by rw [← Array.getElem?_toList]; exact e1)
    have hi2 : i < xs.length := by omega
    have e3 : es.toList[i]? = some (entryOfKey (tupleKind (mixKind X.prog X.w)) xs[i]) := by rw [he, List.getElem?_map, List.getElem?_eq_getElem hi2]; rfl
    have e4 : es[i] = entryOfKey (tupleKind (mixKind X.prog X.w)) xs[i] := by
      rw [Array.getElem?_toList, Array.getElem?_eq_getElem hi] at e3
      exact Option.some.inj e3
    obtain ⟨y, hy1, hy2⟩ := paired_get rel (List.getElem?_eq_getElem hi2)
    have e5 : (kvs.map (·.1))[i]? = some y.1 := by rw [List.getElem?_map, hy1]; rfl
    rw [hks, List.getElem?_map, e2] at e5
    have e6 : k.map Sum.inl = y.1 := Option.some.inj e5
    refine ⟨xs[i].2.1, ?_, ?_⟩
    · rw [ev, e4]
      rfl
    · have := hy2.2.1
      rw [← e6, ← kV_ints] at this
      exact this
  have I1 : Inv X pins σ H { s with heap := h', toks := tk } := I.kept hk
  have hL : acc.toList.length ≤ sizeLine := by rw [hal, ← hlk]; exact z
  refine wpAny_bind (wpAny_newList ?_ hL)
  have hoL : (h'.push (seqObj "list" acc.toList.toArray 0)).get? h'.objs.size = some (seqObj "list" acc.toList.toArray 0) := Heap.get?_push_size _ rfl
  show wpAny _ _ _ _ _ { s with heap := h'.push (seqObj "list" acc.toList.toArray 0), toks := tk }
  let H2 : Heap := PySem.W.sortingHeap (h'.push (seqObj "list" acc.toList.toArray 0)) h'.objs.size acc.toList
  have old : ∀ b ob, h'.get? b = some ob → H2.get? b = some ob := fun b ob e => PySem.W.sortingHeap_old (Nat.ne_of_lt (Heap.lt_size e)) (Heap.get?_push_of_some _ e)
  have rd : ∀ (u : Value) (k : List Int), (∃ b, u = Value.ref b ∧ H b = some (.tup (k.map V.int))) → ∃ as, PySem.Reads H2 u (toP (tupI k)) as := fun u k ⟨b, e, hb⟩ => by
    have dp : Dp X.K H (.ref b) (toP (tupI k)) := by
      show Dp X.K H (.ref b) (.tuple (toPs (k.map D.int)))
      rw [toPs_map, List.map_map]
      exact .tup (SqT.of hb) (dpAll_ints k)
    obtain ⟨as, hr⟩ := Dp.reads I1 _ (.ref b) u dp e
    exact ⟨as, Reads.keeps (fun c oc ec => old c oc ec) hr⟩
  have er : PySem.W.EachIs (fun v d => ∃ as, PySem.Reads H2 v d as) acc.toList (ks.map fun k => toP (tupI k)) := each_map (fun u k _ h => rd u k h) each
  have hall : PySem.W.AllAlike (ks.map fun k => toP (tupI k)) := fun d hd d' hd' => by
    obtain ⟨k, _, rfl⟩ := List.mem_map.mp hd
    obtain ⟨k', _, rfl⟩ := List.mem_map.mp hd'
    exact alikeK k k'
  have ht : ∀ d ∈ ks.map fun k => toP (tupI k), ∃ ys, d = .tuple ys := fun d hd => by
    obtain ⟨k, _, rfl⟩ := List.mem_map.mp hd
    exact ⟨_, rfl⟩
  have hdep : ∀ d ∈ ks.map fun k => toP (tupI k), X.A.in1.in1.units + d.depth < cLine := fun d hd => by
    obtain ⟨k, _, rfl⟩ := List.mem_map.mp hd
    have h2 := (dok_lay 7 (tupI k) (by
      show doks 6 (k.map D.int) = true
      rw [doks_all, List.all_map, List.all_eq_true]
      intro _ _
      rfl)).2
    have e1 : X.A.in1.in1.units = X.A.units + 2 := rfl
    omega
  have S : PySem.W.SortsAt X.prog X.w X.A.in1.in1 { s with heap := H2, toks := tk } (PySem.W.dataKind H2 (ks.map fun k => toP (tupI k))) acc.toList := sorts_tuples (s := { s with heap := H2, toks := tk }) er hall ht hdep
  refine wpAny_bind (wpAny_holding (wpAny_call_entry PyProof.Rows.slot_list_sort ⟨_, hoL, rfl⟩ PyProof.Rows.entry_list_sort
    (PySem.W.list_sort_vals (s := { s with heap := h'.push (seqObj "list" acc.toList.toArray 0), toks := tk }) hoL S hL ⟨_, rfl, ?_⟩) (PyProof.Rows.args_list_sort _)))
  have out := PySem.W.sortVals_each (κ := PySem.W.dataKind H2 (ks.map fun k => toP (tupI k))) (rev := false) (fun k : List Int => PySem.W.keyToks (toP (tupI k))) each (each_same (fun u k hk h => by
    obtain ⟨as, hr⟩ := rd u k h
    exact PySem.W.dataKind_some hall (List.mem_map.mpr ⟨k, hk, rfl⟩) hr) each)
  obtain ⟨bs, e1, e2⟩ := each_refs out
  obtain ⟨e', he'⟩ := PyProof.Rows.sortedHeap_at (vs := acc.toList) (out := (PySem.W.sortVals (PySem.W.dataKind H2 (ks.map fun k => toP (tupI k))) false acc.toList acc.toList).toArray) hoL
  have hlen : (bs.map V.ref).length ≤ sizeLine := by
    have h1 := e2.length
    rw [List.length_mergeSort] at h1
    rw [List.length_map, h1, ← hlk]
    exact z
  refine wpAny_pure ⟨_, rfl, .ref h'.objs.size, upd H h'.objs.size (.lst (bs.map V.ref)), I1.laid (t' := tk) (fun b u e => ?_) (Nat.le_refl _)
    (show ObjOk X.prog X.w _ _ _ (.lst (bs.map V.ref)) from ⟨hlen, _, e', by rw [e1]; exact vals_refs bs, he'⟩), rfl, q _ bs (I1.hok.fresh (Nat.le_refl _)) e2⟩
  have hb : b < h'.objs.size := Heap.lt_size e
  rw [PyProof.Rows.sortedHeap_old (Nat.ne_of_lt hb) (by rw [size_push']; exact Nat.lt_succ_of_lt hb)]
  exact Heap.get?_push_of_some _ e
end DL

set_option Elab.async false
set_option linter.all false
set_option maxRecDepth 100000
set_option maxHeartbeats 1000000
namespace DL
variable [Tabs]
open PySem L2
open Evl (Ex)
/-- tuples of H taken into F -/
def addT (F H : Hp) (bs : List Addr) : Hp := fun b => if b ∈ bs then H b else F b
theorem each_mem {α β : Type} {R : α → β → Prop} : ∀ {as : List α} {bs : List β}, PySem.W.EachIs R as bs → ∀ a ∈ as, ∃ b, R a b
  | _, _, .cons r t, a, h => by
    rcases List.mem_cons.mp h with e | h
    · subst e; exact ⟨_, r⟩
    · exact each_mem t a h
theorem addT_reps {K : PySem.W.Frag} {F H : Hp} {all : List Addr} : ∀ {bs : List Addr} {ks : List (List Int)}, PySem.W.EachIs (fun (b : Addr) k => H b = some (.tup (k.map V.int))) bs ks → (∀ b ∈ bs, b ∈ all) → Reps K (addT F H all) (bs.map V.ref) (ks.map tupI)
  | _, _, .nil, _ => .nil
  | _, _, .cons r t, h => .cons (.tup (by unfold addT; rw [if_pos (h _ (List.mem_cons_self ..))]; exact r) (Reps.ints _)) (addT_reps t fun b hb => h b (List.mem_cons_of_mem _ hb))
def gSortedT : List D → Option (List D)
  | [.dT ks _] => some ((ks.mergeSort leK).map tupI)
  | _ => none
theorem co_sortedT {K : PySem.W.Frag} : CallO K (rSDT K) gSortedT := fun F H xs as l Q s r e q => by
  unfold gSortedT at e
  split at e
  · rename_i ks vs
    cases e
    obtain ⟨v, rfl, rv⟩ := r.one
    cases rv with
    | @dT a o kvs _ _ e1 hk rr =>
      refine ⟨a, kvs, ks, rfl, .inr ⟨o, s _ _ e1⟩, hk, fun p bs hp each => ?_⟩
      have tup : ∀ b ∈ bs, ∃ ys, H b = some (.tup ys) := fun b hb => by
        obtain ⟨k, hk⟩ := each_mem each b hb
        exact ⟨_, hk⟩
      have np : p ∉ bs := fun h => by
        obtain ⟨ys, hy⟩ := tup p h
        rw [hp] at hy
        cases hy
      have fp : addT F H bs p = none := by
        unfold addT
        rw [if_neg np]
        exact fresh_sub s hp
      refine q p (bs.map V.ref) (addT F H bs) _ hp ⟨fun b u h => ?_, .of (Ex.new hp), fun b u h => ?_, fun b u h hn => ?_⟩ fp upd_same (addT_reps each fun _ h => h)
      · unfold addT
        split
        · exact s b u h
        · exact h
      · have nb : b ≠ p := fun z => by rw [z, fp] at h; cases h
        rw [upd_ne nb]
        unfold addT at h
        split at h
        · exact h
        · exact s b u h
      · unfold addT
        split
        · rename_i hb
          obtain ⟨ys, hy⟩ := tup b hb
          rw [hy] at h
          exact absurd (Option.some.inj h).symm (hn ys)
        · rfl
  · cases e
/-- sorted(x): a list of ints or tuples, a dict by ints or tuples -/
def gSortedA (as : List D) : Option (List D) := match gSortedT as with
  | some l => some l
  | none => gSorted as
section
variable {P : Program} {w : World} {K : PySem.W.Frag} {mg : Str → Option Value} {base : Heap} {X : Cx} {W : WX} {N : List Str} {sc : Scope} {k : Nat} {pos : Pos}
variable {e : Expr} {es : List Expr} {p : Pos} {as : DL.Env → R (List D)}
theorem callO_or {r1 r2 : List V → Hp → VK → Prop} {g1 g2 : List D → Option (List D)} (h1 : CallO K r1 g1) (h2 : CallO K r2 g2) : CallO K (fun xs H Q => r1 xs H Q ∨ r2 xs H Q) (fun as => match g2 as with | some l => some l | none => g1 as) := fun F H xs as l Q s r e q => by
  dsimp only at e
  cases eg : g2 as with
  | some l2 =>
    rw [eg] at e
    cases e
    exact .inr (h2 F H xs as _ Q s r eg q)
  | none =>
    rw [eg] at e
    exact .inl (h1 F H xs as l Q s r e q)
theorem xsortedA (C : Ctx P w K mg base X W N sc k) (hm : mg "sorted" = none) (hg : glB sc "sorted" = true) (ha : DA X W (e :: es) as) (he : starEach (e :: es) X.env = (false, eval e X.env) :: starEach es X.env := by rfl) (hpl : (backTo pos (starEach es X.env)).any (·.1) = false := by rfl) :
    DO X W (.Call (.Name "sorted" p) (e :: es) [] pos) (oCall gSortedA as) := do_callB (((cr_sortedI.or (call_sortedDI C.calm)).or (cr_sortedDat C.hu)).or (cr_sortedDT C.calm C.hu)) (callO_or co_sorted co_sortedT) (C.gl hg) (C.no hm) (by decide +kernel) ha (he := he) (hpl := hpl)
/-! ### wrappers -/
theorem xixD (C : Ctx P w K mg base X W N sc k) {a b : Expr} {fa fb : DL.Env → R D} (ha : DE X W a fa) (hb : DE X W b fb) (hs : PlainIx b := by exact fun _ _ => rfl) : DE X W (.Subscript a b pos) (op2 gIxD fa fb) := de_ixD C.hu ha hb hs
theorem xdgO (C : Ctx P w K mg base X W N sc k) (i : Nat) {x : Str} {q : Pos} {b : Expr} {fk : DL.Env → R D} (h : N[i]? = some x) (hv : visB sc x = true) (hb : DE X W b fk) (hd : (x == ("__debug__" : Str)) = false := by decide) (hcd : (x == ("__classdict__" : Str)) = false := by decide) (hs : PlainIx b := by exact fun _ _ => rfl) : DE X W (.Subscript (.Name x q) b pos) (eDgO i fk) :=
  de_dgO C.hu (pe_var (C.at h) (C.vis hv) hd hcd) hb hs
theorem xinO (C : Ctx P w K mg base X W N sc k) (i : Nat) {x : Str} {q : Pos} {b : Expr} {fk : DL.Env → R D} (h : N[i]? = some x) (hv : visB sc x = true) (hb : DE X W b fk) (hd : (x == ("__debug__" : Str)) = false := by decide) (hcd : (x == ("__classdict__" : Str)) = false := by decide) : DE X W (.Compare b [.In] [.Name x q] pos) (eInO false i fk) :=
  de_inO C.hu (pe_var (C.at h) (C.vis hv) hd hcd) hb
theorem xnotInO (C : Ctx P w K mg base X W N sc k) (i : Nat) {x : Str} {q : Pos} {b : Expr} {fk : DL.Env → R D} (h : N[i]? = some x) (hv : visB sc x = true) (hb : DE X W b fk) (hd : (x == ("__debug__" : Str)) = false := by decide) (hcd : (x == ("__classdict__" : Str)) = false := by decide) : DE X W (.Compare b [.NotIn] [.Name x q] pos) (eInO true i fk) :=
  de_notInO C.hu (pe_var (C.at h) (C.vis hv) hd hcd) hb
theorem yput (C : Ctx P w K mg base X W N sc k) (i : Nat) {x : Str} {q pos' : Pos} {b value : Expr} {fk fv : DL.Env → R D} (h : N[i]? = some x) (hv : visB sc x = true) (hb : DE X W b fk) (hval : DE X W value fv) (hd : (x == ("__debug__" : Str)) = false := by decide) (hcd : (x == ("__classdict__" : Str)) = false := by decide)
    (hs : swapsWith value (some (.Subscript (.Name x q) b pos')) pos.line X.env = pure false := by rfl) : DS X W (.Assign [.Subscript (.Name x q) b pos'] value pos) (sPut i fk fv) :=
  ds_put C.hu (pe_var (C.at h) (C.vis hv) hd hcd) hb hval hs
theorem xdisp1 (C : Ctx P w K mg base X W N sc k) {a b : Expr} {fk fv : DL.Env → R D} (hk : DE X W a fk) (hv : DE X W b fv) : DO X W (.Dict [some a] [b] pos) (oDisp1 fk fv) := do_disp1 C.hu hk hv
end
end DL

set_option Elab.async false
set_option linter.all false
set_option maxRecDepth 100000
set_option maxHeartbeats 1000000
/-! Dict comprehensions of one clause; list.count; d.get. -/
namespace DL
variable [Tabs]
open PySem PySem.Spec PyProof.Rows L2
section
variable {X : Cx}
theorem ps_setDc {i : Nat} {y : Str} {py : Pos} {kx vx tg iter : Expr} {ifs : List Expr} {scope : Scope} {own : List (Str × Nat)} {pos spos : Pos} {wi : TI} {g : TG} {tt : TT} {tk tv : TE} (hc : X.calm = true) (hN : X.N.Nodup) (hy : X.N[i]? = some y) (hyl : X.env.scope.names.lookup y = some .local)
    (hsw : swapsWith (.DictComp kx vx [⟨tg, iter, ifs, 0⟩] scope pos) (some (.Name y py)) spos.line X.env = pure true) (hi : PI X tg iter wi) (ok : BlkOk X.N X.env.scope scope own)
    (hg : AllB X scope fun Y => PG Y tg g) (ht : AllB X scope fun Y => PTs Y ifs tt) (hk : AllB X scope fun Y => PE Y kx tk) (he : AllB X scope fun Y => PE Y vx tv)
    (hs : ∀ x, foldedSetIterable iter X.env x = pure x) :
    PS X (.Assign [.Name y py] (.DictComp kx vx [⟨tg, iter, ifs, 0⟩] scope pos) spos) (tAsg (tDc wi g tt tk tv (own.map (·.2))) (gName i)) := by
  refine ⟨fun pins s σ H D I h => ?_⟩
  rw [exec_Assign_Name_used _ _ _ _ hsw]
  refine wpAny_bind (wpAny_standAt (wpAny_bind ?_))
  show wpAny _ X.A (do let _ ← comprehension (.DictComp kx vx [⟨tg, iter, ifs, 0⟩] scope pos) scope X.env (firstIterPos [⟨tg, iter, ifs, 0⟩] pos) newDict false (eval iter X.env) (some (assign (.Name y py) X.env))) _ _ s
  have h : tDc wi g tt tk tv (own.map (·.2)) σ H (fun x H1 => gName i x σ H1 D.nx) := h
  refine wpAny_bind (thn (dc_core (Qf := fun _ s' => SP X pins D .next s') hc hN I hi ok hg ht hk he hs h fun L C s' m H' I' q hn f => ?_) fun _ s' hq => wpAny_pure (wpAny_pure hq))
  show wpAny _ _ (assign (.Name y py) X.env (.ref L)) _ _ _
  refine wpAny_assign_Name (store_ok2 (v := V.ref L) I' hN hy (.inl hyl) rfl (fun s2 I2 ⟨a, sb, ha⟩ => ?_) (.inr hyl))
  obtain ⟨f0, f1, f2, f3, f4, f5⟩ := f
  have haC : C ≠ a := by
    rcases ha with z | z
    · rw [z]; exact f1
    · exact fun e => f4 y a z e.symm
  refine ⟨m, hn.sameBut sb haC, fun h3 sb3 => ?_⟩
  exact ⟨_, H', I2.turned (t' := s2.toks) (fun b o hb e => (sb3.2 b hb).trans e) f0 f1 f3 f4 f5, q⟩
end
section
variable {X : Cx} {W : WX} {pos : Pos}
theorem dc_of {K : PySem.W.Frag} {is vs : List Nat} {f : DL.Env → R (List D)} {g : D → DL.Env → Option DL.Env} {ek ev : DL.Env → R D} (his : ∀ i ∈ is, i ∈ vs) (tg : Tame g) {σ : L2.St} {H : Hp} {Q : VK} (hh : tDo K W (oDc f g ek ev vs) σ H Q) :
    tDc (tIg K W f) (tG K is g) (tDt K WN bYes) (tD K WN ek) (tD K WN ev) vs σ H Q := by
  obtain ⟨F0, H0, F, ρ, S, q⟩ := hh
  unfold oDc at q
  refine ⟨F0, H0, F, ρ, S, ?_⟩
  cases ef : f ρ with
  | bad => rw [ef] at q; exact q.elim
  | exc c => rw [ef] at q; exact q
  | ok items =>
    rw [ef, R.bind_ok] at q
    cases el : dIn g ek ev (wipeE (ρ.map DL.clr) vs) items [] [] with
    | bad => rw [el] at q; exact q.elim
    | exc c => rw [el] at q; exact q.elim
    | ok total =>
      rw [el] at q
      intro J F1 H1 gg1 G Dl hD
      have hDH : H Dl = none := gg1.eh.fresh hD
      have S0 : Srep K F0 H0 F1 H1 (L2.wipe σ vs) (wipeE (ρ.map DL.clr) vs) := ((S.go gg1).clr).wipe vs
      have N0 : NoOwn (wipeE (ρ.map DL.clr) vs) := noOwn_wipe (noOwn_clr ρ) vs
      have gr : ∀ {F' H' ks ds}, DL.Mk K F1 H1 Dl F' H' ks ds → Grow F0 H0 F' H' := fun m => (S.grow.trans gg1).trans m.g
      refine ⟨fun i m H' => m = items.length - i ∧ i ≤ items.length ∧ ∃ F' ks ds, DL.Mk K F1 H1 Dl F' H' ks ds ∧ dIn g ek ev (wipeE (ρ.map DL.clr) vs) (items.drop i) ks ds = .ok total, ?_, ?_⟩
      · exact ⟨items.length, by simp, Nat.zero_le _, F1, [], [], ⟨Grow.addH gg1.sub hD, fresh_sub gg1.sub hD, [], upd_same, rfl, .nil⟩, by rw [List.drop_zero]; exact el⟩
      · rintro i m H' ⟨rfl, hi, F', ks, ds, mk, hl⟩
        by_cases hlt : i < items.length
        · refine .inr ⟨G.go i F' H' mk.g hlt, fun H'' => ∃ F' ks ds, DL.Mk K F1 H1 Dl F' H'' ks ds ∧ dIn g ek ev (wipeE (ρ.map DL.clr) vs) (items.drop (i + 1)) ks ds = .ok total, fun H'' h => ⟨items.length - (i + 1), by omega, rfl, hlt, h⟩, fun x H'' y => ?_⟩
          obtain ⟨F'', d, hd, g3, r3⟩ := G.yld i F' H' x H'' mk.g hlt y
          rw [drop_at hlt hd] at hl
          unfold dIn at hl
          have mk2 := mk.go g3
          cases eg : g d (wipeE (ρ.map DL.clr) vs) with
          | none => rw [eg] at hl; cases hl
          | some ρ1 =>
            simp only [eg] at hl
            have N1 : NoOwn ρ1 := tg d _ _ N0 eg
            have S2 : Srep K F0 H0 F'' H'' (L2.wipe σ vs) (wipeE (ρ.map DL.clr) vs) := S0.free N0 mk2.g.ef (gr mk2) fun P h => (S0.tab P h).go mk2.g
            refine ⟨F0, H0, F'', _, d, ρ1, S2, r3, eg, fun σ2 S3 sm => ⟨?_, ?_⟩⟩
            · rw [sm vs his]
              exact wipe_idem vs vs fun _ h => h
            · refine ⟨F0, H0, F'', ρ1, S3, fun F3 H3 g4 => ?_⟩
              dsimp only
              rw [if_pos rfl]
              have S4 := S3.go g4
              have mk3 := mk2.go g4
              cases e1 : ek ρ1 with
              | bad => simp only [e1] at hl; cases hl
              | exc c => simp only [e1] at hl; cases hl
              | ok dk =>
                cases dk with
                | int k =>
                  simp only [e1] at hl
                  cases e2 : ev ρ1 with
                  | bad => simp only [e2] at hl; cases hl
                  | exc c => simp only [e2] at hl; cases hl
                  | ok dv =>
                    simp only [e2] at hl
                    refine tD_ok S4 e1 fun yv F5 H5 g5 r5 => tD_ok (S4.go g5) e2 fun zv F6 H6 g6 r6 => ?_
                    by_cases hn : ks.length < 100000
                    · rw [if_pos hn] at hl
                      have mk4 := (mk3.go g5).go g6
                      obtain ⟨kvs, h1, h2, h3⟩ := mk4.put (k := k) hD r6 hn
                      cases r5
                      exact ⟨kvs, Sum.inl k, rfl, h1, h2, F6, _, _, h3, hl⟩
                    · rw [if_neg hn] at hl
                      cases hl
                | _ => simp only [e1] at hl; cases hl
        · have e : i = items.length := by omega
          subst e
          rw [List.drop_length] at hl
          cases hl
          obtain ⟨kvs, h1, h2, h3⟩ := mk.ex
          exact .inl ⟨G.stop F' H' mk.g, q Dl _ F' H' hDH (gg1.trans mk.g) mk.fd h1 ⟨kvs, rfl, h2, h3⟩⟩
end
section
variable {X : Cx} {W : WX} {pos : Pos}
theorem do_dc {is : List Nat} {kx vx tg iter : Expr} {scope : Scope} {own : List (Str × Nat)} {f : DL.Env → R (List D)} {g : D → DL.Env → Option DL.Env} {ek ev : DL.Env → R D} (hc : X.calm = true) (hN : X.N.Nodup) (hi : DIg X W tg iter f) (ok : BlkOk X.N X.env.scope scope own)
    (hg : AllB X scope fun Y => DG Y is tg g) (ht : AllB X scope fun Y => DTs Y WN [] bYes) (hk : AllB X scope fun Y => DE Y WN kx ek) (he : AllB X scope fun Y => DE Y WN vx ev) (t0 : Tame g) (his : ∀ i ∈ is, i ∈ own.map (·.2)) (hs : ∀ x, foldedSetIterable iter X.env x = pure x) :
    DO X W (.DictComp kx vx [⟨tg, iter, [], 0⟩] scope pos) (oDc f g ek ev (own.map (·.2))) :=
  pe_imp (pe_dc hc hN hi ok hg ht hk he hs) fun σ H Q hh => dc_of his t0 hh
theorem ds_ownDc {is : List Nat} {i : Nat} {y : Str} {py spos : Pos} {kx vx tg iter : Expr} {scope : Scope} {own : List (Str × Nat)} {f : DL.Env → R (List D)} {g : D → DL.Env → Option DL.Env} {ek ev : DL.Env → R D} (hc : X.calm = true) (hN : X.N.Nodup) (hy : X.N[i]? = some y) (hyl : X.env.scope.names.lookup y = some .local)
    (hsw : swapsWith (.DictComp kx vx [⟨tg, iter, [], 0⟩] scope pos) (some (.Name y py)) spos.line X.env = pure true) (hi : DIg X W tg iter f) (ok : BlkOk X.N X.env.scope scope own)
    (hg : AllB X scope fun Y => DG Y is tg g) (ht : AllB X scope fun Y => DTs Y WN [] bYes) (hk : AllB X scope fun Y => DE Y WN kx ek) (he : AllB X scope fun Y => DE Y WN vx ev) (t0 : Tame g) (his : ∀ i ∈ is, i ∈ own.map (·.2)) (hs : ∀ x, foldedSetIterable iter X.env x = pure x) :
    DS X W (.Assign [.Name y py] (.DictComp kx vx [⟨tg, iter, [], 0⟩] scope pos) spos) (sOwn i (oDc f g ek ev (own.map (·.2)))) :=
  ps_imp (ps_setDc hc hN hy hyl hsw hi ok hg ht hk he hs) fun E σ H hh => dc_of (Q := fun x H1 => gName i x σ H1 E.nx) his t0 (own_of hh)
end
section
variable {P : Program} {w : World} {K : PySem.W.Frag} {mg : Str → Option Value} {base : Heap} {X : Cx} {W : WX} {N : List Str} {sc : Scope} {k : Nat} {pos : Pos}
theorem xdc (C : Ctx P w K mg base X W N sc k) (own : List (Str × Nat)) (is : List Nat) {kx vx tg iter : Expr} {scope : Scope} {f : DL.Env → R (List D)} {g : D → DL.Env → Option DL.Env} {ek ev : DL.Env → R D} (hi : DIg X W tg iter f) (ok : blkC N sc scope own = true)
    (h : ∀ Y, Ctx P w K mg base Y WN N (relS scope sc) k → (∀ x, (scope.names.lookup x == some NameKind.cell) = true → Y.fn x = true) → DG Y is tg g ∧ DE Y WN kx ek ∧ DE Y WN vx ev) (t0 : Tame g)
    (his : ∀ i ∈ is, i ∈ own.map (·.2) := by decide) (hs : ∀ x, foldedSetIterable iter X.env x = pure x := by intro _; rfl) :
    DO X W (.DictComp kx vx [⟨tg, iter, [], 0⟩] scope pos) (oDc f g ek ev (own.map (·.2))) :=
  do_dc C.calm C.nd' hi (C.ok ok) (C.all fun Y c q => (h Y c q).1) (C.all fun Y c q => dts_nil) (C.all fun Y c q => (h Y c q).2.1) (C.all fun Y c q => (h Y c q).2.2) t0 his hs
theorem ydc (C : Ctx P w K mg base X W N sc k) (j : Nat) (own : List (Str × Nat)) (is : List Nat) {y : Str} {py spos : Pos} {kx vx tg iter : Expr} {scope : Scope} {f : DL.Env → R (List D)} {g : D → DL.Env → Option DL.Env} {ek ev : DL.Env → R D} (hy : N[j]? = some y) (hyl : isLoc sc y = true)
    (hsw : ∀ env : PySem.Env, env.scope = sc → swapsWith (.DictComp kx vx [⟨tg, iter, [], 0⟩] scope pos) (some (.Name y py)) spos.line env = pure true) (hi : DIg X W tg iter f) (ok : blkC N sc scope own = true)
    (h : ∀ Y, Ctx P w K mg base Y WN N (relS scope sc) k → (∀ x, (scope.names.lookup x == some NameKind.cell) = true → Y.fn x = true) → DG Y is tg g ∧ DE Y WN kx ek ∧ DE Y WN vx ev) (t0 : Tame g)
    (his : ∀ i ∈ is, i ∈ own.map (·.2) := by decide) (hs : ∀ x, foldedSetIterable iter X.env x = pure x := by intro _; rfl) :
    DS X W (.Assign [.Name y py] (.DictComp kx vx [⟨tg, iter, [], 0⟩] scope pos) spos) (sOwn j (oDc f g ek ev (own.map (·.2)))) :=
  ds_ownDc C.calm C.nd' (C.at hy) (C.isLoc hyl) (hsw _ C.hsc) hi (C.ok ok) (C.all fun Y c q => (h Y c q).1) (C.all fun Y c q => dts_nil) (C.all fun Y c q => (h Y c q).2.1) (C.all fun Y c q => (h Y c q).2.2) t0 his hs
end
end DL

set_option Elab.async false
set_option linter.all false
set_option maxRecDepth 100000
set_option maxHeartbeats 1000000
/-! More constructs: a dict comprehension into a cell, own sums of lists, xs.count(y), ranges, d.get(k), chains of three. -/
namespace DL
variable [Tabs]
open PySem L2
open Evl (Ex)
theorem sw_cellD {kx vx : Expr} {gs : List Comprehension} {scope sc : Scope} {pos py : Pos} {y : Str} {l : Nat} (hy : isCel sc y = true) (env : PySem.Env) (e : env.scope = sc) : swapsWith (.DictComp kx vx gs scope pos) (some (.Name y py)) l env = pure false := by
  subst e
  have ky : env.kindOf y = some .cell := isCel_of hy
  unfold swapsWith
  simp only [ky]
  have : ((some NameKind.cell : Option NameKind) == some .local) = false := rfl
  simp only [this, Bool.and_false, Bool.false_and]
section
variable {X : Cx} {W : WX} {pos : Pos}
/-! ### l + m, the sum an own list -/
def oAdd (fa fb : Env → R D) : Env → R Ow := fun ρ => (fa ρ).bind fun a => (fb ρ).bind fun b => match a, b with
  | .lst l, .lst m => if l.length + m.length ≤ 100000 then .ok (.lst (l ++ m)) else .bad
  | _, _ => .bad
theorem do_add {a b : Expr} {fa fb : Env → R D} (ha : DE X W a fa) (hb : DE X W b fb) : DO X W (.BinOp a .Add b pos) (oAdd fa fb) := by
  refine pe_imp (pe_op op_cat ha hb) fun σ H Q hh => ?_
  obtain ⟨F0, H0, F, ρ, S, q⟩ := hh
  unfold oAdd at q
  show tD X.K W fa σ H fun x H1 => tD X.K W fb σ H1 fun y H2 => rCat x y H2 Q
  cases ea : fa ρ with
  | bad => rw [ea] at q; exact q.elim
  | exc c => rw [ea] at q; exact tD_exc S ea q
  | ok da =>
    rw [ea, R.bind_ok] at q
    refine tD_ok S ea fun x F1 H1 g1 r1 => ?_
    cases eb : fb ρ with
    | bad => rw [eb] at q; exact q.elim
    | exc c => rw [eb] at q; exact tD_exc (S.go g1) eb fun F2 H2 g2 => q F2 H2 (g1.trans g2)
    | ok db =>
      rw [eb, R.bind_ok] at q
      refine tD_ok (S.go g1) eb fun y F2 H2 g2 r2 => ?_
      have r1 := r1.ex g2.ef
      cases r1 with
      | @lst a1 xs l e1 k1 =>
        cases r2 with
        | @lst a2 ys m e2 k2 =>
          simp only at q
          by_cases hl : l.length + m.length ≤ 100000
          · rw [if_pos hl] at q
            refine ⟨_, _, _, _, rfl, rfl, g2.sub _ _ e1, g2.sub _ _ e2, by rw [k1.length, k2.length]; exact sz hl, fun p hp => ?_⟩
            have G := g1.trans g2
            exact q p _ F2 _ (G.eh.fresh hp) (G.trans (Grow.addH G.sub hp)) (fresh_sub G.sub hp) upd_same ⟨_, rfl, k1.append k2⟩
          · rw [if_neg hl] at q
            exact q.elim
        | _ => exact q.elim
      | _ => exact q.elim
/-! ### xs.count(y), ints -/
def eCount (fo : Env → R D) (fa : Env → R (List D)) : Env → R D := fun ρ => (fo ρ).bind fun o => match o with
  | .lst l => (fa ρ).bind fun as => match as with
    | [.int k] => (match asInts l with
      | some ns => .ok (.int (ns.count k : Nat))
      | none => .bad)
    | _ => .bad
  | _ => .bad
theorem de_count {e : Expr} {fo : Env → R D} {fa : Env → R (List D)} (base : PE X e (tBM X.K "list" (rCntI X.K) (tD X.K W fo) (tDs X.K W fa))) (hl : ∀ ρ ds, fa ρ = .ok ds → ds.length = 1) : DE X W e (eCount fo fa) := by
  refine pe_imp base fun σ H Q ⟨F0, H0, F, ρ, S, q⟩ => ?_
  unfold eCount at q
  show tD X.K W fo σ H fun x H1 => tyV X.K "list" x H1 ∧ tDs X.K W fa σ H1 fun xs H2 => rCntI X.K x xs H2 Q
  cases eo : fo ρ with
  | bad => rw [eo] at q; exact q.elim
  | exc c => rw [eo] at q; exact tD_exc S eo q
  | ok o =>
    rw [eo, R.bind_ok] at q
    refine tD_ok S eo fun v F1 H1 g1 r1 => ?_
    cases r1 with
    | @lst a xs l e1 k1 =>
      refine ⟨.inl ⟨rfl, _, SqL.of (g1.sub _ _ e1)⟩, ?_⟩
      simp only at q
      cases ea : fa ρ with
      | bad => rw [ea] at q; exact q.elim
      | exc c => rw [ea] at q; exact tDs_exc (S.go g1) ea fun F2 H2 g2 => q F2 H2 (g1.trans g2)
      | ok as =>
        rw [ea, R.bind_ok] at q
        refine tDs_ok (S.go g1) ea fun vs F2 H2 g2 r2 => ?_
        match as, hl ρ as ea, r2 with
        | [y], _, .cons (v := yv) ry .nil =>
          cases ry with
          | int k =>
            simp only at q
            cases es : asInts l with
            | none => simp only [es] at q
            | some ns =>
              simp only [es] at q
              cases asInts_eq es
              exact ⟨a, ns, k, rfl, rfl, SqL.of (by rw [← k1.of_ints]; exact (g1.trans g2).sub _ _ (g2.ef _ _ e1)), q _ F2 H2 (g1.trans g2) (.int _)⟩
          | _ => exact q.elim
    | _ => exact q.elim
/-! ### list(range(a, b)), tuple(range(n)) -/
variable {p : Pos}
theorem do_range2 {a b : Expr} {f g : Env → R D} {p2 pos2 : Pos} (hc : X.calm = true) (hg : Gl X "list") (hm : X.mg "list" = none) (hg2 : Gl X "range") (hm2 : X.mg "range" = none) (ha : DE X W a f) (hb : DE X W b g)
    (na : starEach [a, b] X.env = (false, eval a X.env) :: starEach [b] X.env := by rfl) (na2 : starEach [b] X.env = (false, eval b X.env) :: starEach [] X.env := by rfl) (hpl : (backTo pos2 (starEach [b] X.env)).any (·.1) = false := by rfl) (nb : starEach [.Call (.Name "range" p2) [a, b] [] pos2] X.env = (false, eval (.Call (.Name "range" p2) [a, b] [] pos2) X.env) :: starEach [] X.env := by rfl) : DO X W (.Call (.Name "list" p) [.Call (.Name "range" p2) [a, b] [] pos2] [] pos) (oRange (aCons f (aCons g aNil))) := by
  refine pe_imp (pe_listRg hc hg hm (prg_2 hg2 hm2 ha hb na na2 hpl) nb) fun σ H Q ⟨F0, H0, F, ρ, S, q⟩ => ?_
  unfold oRange aCons at q
  show tD X.K W f σ H fun x H1 => tD X.K W g σ H1 fun y H2 => ∃ i j, x = .int i ∧ y = .int j ∧ (RgOk i j ∧ ∀ q, H2 q = none → Q (.ref q) (upd H2 q (.lst (rgV i j))))
  cases ef : f ρ with
  | bad => rw [ef] at q; exact q.elim
  | exc c => rw [ef] at q; exact tD_exc S ef q
  | ok d =>
    rw [ef, R.bind_ok] at q
    refine tD_ok S ef fun v F1 H1 g1 r1 => ?_
    cases eg : g ρ with
    | bad => rw [eg] at q; exact q.elim
    | exc c => rw [eg] at q; exact tD_exc (S.go g1) eg fun F2 H2 g2 => q F2 H2 (g1.trans g2)
    | ok d2 =>
      rw [eg, R.bind_ok] at q
      refine tD_ok (S.go g1) eg fun v2 F2 H2 g2 r2 => ?_
      cases r1 with
      | int i =>
        cases r2 with
        | int j =>
          have q : (match (if decide (0 ≤ i) && decide (i ≤ 100000) && decide (0 ≤ j) && decide (j ≤ 100000) then R.ok (Ow.lst (rangeD i j)) else .bad) with
            | .ok o => ∀ p u F' H', H p = none → Grow F H F' H' → F' p = none → H' p = some u → OwRep X.K F' u o → Q (.ref p) H'
            | .exc c => ∀ F' H', Grow F H F' H' → W (.ref c) none σ H'
            | .bad => False) := q
          by_cases h : (decide (0 ≤ i) && decide (i ≤ 100000) && decide (0 ≤ j) && decide (j ≤ 100000)) = true
          · rw [if_pos h] at q
            simp only [Bool.and_eq_true, decide_eq_true_eq] at h
            have G := g1.trans g2
            exact ⟨i, j, rfl, rfl, RgOk.of_le (by omega) (by omega) (by omega) (by omega), fun p hp => q p _ F2 _ (G.eh.fresh hp) (G.trans (Grow.addH G.sub hp)) (fresh_sub G.sub hp) upd_same ⟨_, rfl, rgV_reps i j⟩⟩
          · rw [if_neg h] at q
            exact q.elim
        | _ => exact q.elim
      | _ => exact q.elim
def eTupRg (f : Env → R D) : Env → R D := fun ρ => (f ρ).bind fun d => match d with
  | .int j => if decide (0 ≤ j) && decide (j ≤ 100000) then .ok (.tup (rangeD 0 j)) else .bad
  | _ => .bad
theorem de_tupRg {a : Expr} {f : Env → R D} {p2 pos2 : Pos} (hc : X.calm = true) (hg : Gl X "tuple") (hm : X.mg "tuple" = none) (hg2 : Gl X "range") (hm2 : X.mg "range" = none) (ha : DE X W a f)
    (na : starEach [a] X.env = (false, eval a X.env) :: starEach [] X.env := by rfl) (nb : starEach [.Call (.Name "range" p2) [a] [] pos2] X.env = (false, eval (.Call (.Name "range" p2) [a] [] pos2) X.env) :: starEach [] X.env := by rfl) : DE X W (.Call (.Name "tuple" p) [.Call (.Name "range" p2) [a] [] pos2] [] pos) (eTupRg f) := by
  refine pe_imp (pe_tupRg hc hg hm (prg_1 hg2 hm2 ha na) nb) fun σ H Q ⟨F0, H0, F, ρ, S, q⟩ => ?_
  unfold eTupRg at q
  show tD X.K W f σ H fun x H1 => ∃ n, x = .int n ∧ (RgOk 0 n ∧ ∀ q, H1 q = none → Q (.ref q) (upd H1 q (.tup (rgV 0 n))))
  cases ef : f ρ with
  | bad => rw [ef] at q; exact q.elim
  | exc c => rw [ef] at q; exact tD_exc S ef q
  | ok d =>
    rw [ef, R.bind_ok] at q
    refine tD_ok S ef fun v F1 H1 g1 r1 => ?_
    cases r1 with
    | int j =>
      simp only at q
      by_cases h : (decide (0 ≤ j) && decide (j ≤ 100000)) = true
      · rw [if_pos h] at q
        simp only [Bool.and_eq_true, decide_eq_true_eq] at h
        exact ⟨j, rfl, RgOk.of_le (by omega) (by omega) (by omega) (by omega), fun p hp => q _ _ _ (g1.trans (Grow.add g1.sub hp)) (.tup upd_same (rgV_reps 0 j))⟩
      · rw [if_neg h] at q
        exact q.elim
    | _ => exact q.elim
/-! ### d.get(k), d a frozen dict -/
def isD : D → Bool
  | .dT _ _ => true
  | .dI _ _ => true
  | _ => false
def eDget (fd fk : Env → R D) : Env → R D := fun ρ => (fd ρ).bind fun d => if isD d = true then (fk ρ).bind fun k => (match lookD d k with
  | some (some v) => .ok v
  | some none => .ok .non
  | none => .bad) else .bad
theorem de_dget {o e : Expr} {apos : Pos} {fd fk : Env → R D} (hu : X.A.units + 65 < cLine) (ho : DE X W o fd) (he : DE X W e fk) (m : M1 X o "get" apos e pos) : DE X W (.Call (.Attribute o "get" apos) [e] [] pos) (eDget fd fk) := by
  refine pe_imp (pe_dget1 (by omega) ho he m) fun σ H Q ⟨F0, H0, F, ρ, S, q⟩ => ?_
  unfold eDget at q
  show tD X.K W fd σ H fun x H1 => ∃ a, x = .ref a ∧ IsD H1 a ∧ tD X.K W fk σ H1 fun y H2 => ∃ o, DGet H2 a y o ∧ Q (o.getD .non) H2
  cases ed : fd ρ with
  | bad => rw [ed] at q; exact q.elim
  | exc c => rw [ed] at q; exact tD_exc S ed q
  | ok d =>
    rw [ed, R.bind_ok] at q
    refine tD_ok S ed fun x F1 H1 g1 r1 => ?_
    by_cases hd : isD d = true
    · rw [if_pos hd] at q
      have hx : ∃ a, x = .ref a ∧ IsD H1 a := by
        cases r1 with
        | @dT a o kvs _ _ e hk rv => exact ⟨a, rfl, .inr ⟨kvs, .inr ⟨o, g1.sub _ _ e⟩⟩⟩
        | @dI a o kvs _ _ e hk rv => exact ⟨a, rfl, .inl ⟨kvs, .inr ⟨o, g1.sub _ _ e⟩⟩⟩
        | _ => cases hd
      obtain ⟨a, rfl, hi⟩ := hx
      refine ⟨a, rfl, hi, ?_⟩
      cases ek : fk ρ with
      | bad => rw [ek] at q; exact q.elim
      | exc c => rw [ek] at q; exact tD_exc (S.go g1) ek fun F2 H2 g2 => q F2 H2 (g1.trans g2)
      | ok k =>
        rw [ek, R.bind_ok] at q
        refine tD_ok (S.go g1) ek fun y F2 H2 g2 r2 => ?_
        cases el : lookD d k with
        | none => simp only [el] at q
        | some r =>
          obtain ⟨a', rv, ea, dg, hr⟩ := look_val g2.sub (r1.ex g2.ef) r2 el
          cases ea
          cases r with
          | none =>
            simp only [el] at q
            refine ⟨rv, dg, ?_⟩
            rw [show rv = none from hr]
            exact q _ F2 H2 (g1.trans g2) .non
          | some v =>
            simp only [el] at q
            obtain ⟨v', rfl, rd⟩ := hr
            exact ⟨_, dg, q _ F2 H2 (g1.trans g2) rd⟩
    · rw [if_neg hd] at q
      exact q.elim
end
section
variable {P : Program} {w : World} {K : PySem.W.Frag} {mg : Str → Option Value} {base : Heap} {X : Cx} {W : WX} {N : List Str} {sc : Scope} {k : Nat} {pos p : Pos}
theorem xadd (C : Ctx P w K mg base X W N sc k) {a b : Expr} {fa fb : DL.Env → R D} (ha : DE X W a fa) (hb : DE X W b fb) : DO X W (.BinOp a .Add b pos) (oAdd fa fb) := do_add ha hb
theorem xcount (C : Ctx P w K mg base X W N sc k) {o a : Expr} {apos : Pos} {fo : DL.Env → R D} {fa : DL.Env → R (List D)} (ho : DE X W o fo) (ha : DA X W [a] fa) (hl : ∀ ρ ds, fa ρ = .ok ds → ds.length = 1)
    (hbase : attributeBase o "count" X.env (eval o X.env) = eval o X.env := by rfl)
    (hfew : ((backTo pos (starEach [a] X.env)).all (fun x => !x.1) && (backToKw pos (keywordEach [] X.env)).all (fun x => x.1.isSome)
      && decide ([a].length + ([] : List Keyword).length + (if ([] : List Keyword).isEmpty then 0 else 1) < 30)) = true := by rfl)
    (hline : (apos.endLine == pos.line) = true := by rfl) (hs : starEach [a] X.env = (false, eval a X.env) :: starEach [] X.env := by rfl) (hplain : (backTo pos (starEach [] X.env)).any (·.1) = false := by rfl) :
    DE X W (.Call (.Attribute o "count" apos) [a] [] pos) (eCount fo fa) :=
  de_count (pe_bm PySem.F.plainAttrs_list PySem.F.slot_list_count PySem.F.type_list_count mt_lcount ho ha hbase hfew hline hs hplain) hl
theorem xrange2 (C : Ctx P w K mg base X W N sc k) {a b : Expr} {f g : DL.Env → R D} {p2 pos2 : Pos} (hm : mg "list" = none) (hm2 : mg "range" = none) (hg : glB sc "list" = true) (hg2 : glB sc "range" = true) (ha : DE X W a f) (hb : DE X W b g)
    (na : starEach [a, b] X.env = (false, eval a X.env) :: starEach [b] X.env := by rfl) (na2 : starEach [b] X.env = (false, eval b X.env) :: starEach [] X.env := by rfl) (hpl : (backTo pos2 (starEach [b] X.env)).any (·.1) = false := by rfl) (nb : starEach [.Call (.Name "range" p2) [a, b] [] pos2] X.env = (false, eval (.Call (.Name "range" p2) [a, b] [] pos2) X.env) :: starEach [] X.env := by rfl) : DO X W (.Call (.Name "list" p) [.Call (.Name "range" p2) [a, b] [] pos2] [] pos) (oRange (aCons f (aCons g aNil))) :=
  do_range2 C.calm (C.gl hg) (C.no hm) (C.gl hg2) (C.no hm2) ha hb na na2 hpl nb
theorem xtupRg (C : Ctx P w K mg base X W N sc k) {a : Expr} {f : DL.Env → R D} {p2 pos2 : Pos} (hm : mg "tuple" = none) (hm2 : mg "range" = none) (hg : glB sc "tuple" = true) (hg2 : glB sc "range" = true) (ha : DE X W a f)
    (na : starEach [a] X.env = (false, eval a X.env) :: starEach [] X.env := by rfl) (nb : starEach [.Call (.Name "range" p2) [a] [] pos2] X.env = (false, eval (.Call (.Name "range" p2) [a] [] pos2) X.env) :: starEach [] X.env := by rfl) : DE X W (.Call (.Name "tuple" p) [.Call (.Name "range" p2) [a] [] pos2] [] pos) (eTupRg f) :=
  de_tupRg C.calm (C.gl hg) (C.no hm) (C.gl hg2) (C.no hm2) ha na nb
theorem xdget (C : Ctx P w K mg base X W N sc k) {o e : Expr} {apos : Pos} {fd fk : DL.Env → R D} (ho : DE X W o fd) (he : DE X W e fk) (m : M1 X o "get" apos e pos := by exact ⟨rfl, rfl, rfl, rfl⟩) : DE X W (.Call (.Attribute o "get" apos) [e] [] pos) (eDget fd fk) := de_dget C.hu ho he m
end
end DL

set_option Elab.async false
set_option linter.all false
set_option maxRecDepth 100000
set_option maxHeartbeats 1000000
/-! enumerate of a list or a tuple. -/
namespace DL
variable [Tabs]
open PySem L2
open Evl (Ex)
section
variable {X : Cx} {W : WX} {pos : Pos}
def iEnumA (f : Env → R (List D)) : Env → R (List D) := fun ρ => (f ρ).bind fun as => match as with
  | [.tup l] => .ok (enumD l)
  | [.lst l] => .ok (enumD l)
  | _ => .bad
theorem good_enumL {K : PySem.W.Frag} {F : Hp} {a : Addr} {xs : List V} {ds : List D} (hx : SqL K F a xs) (rx : Reps K F xs ds) : GoodF K (Ite K a) F (enumD ds) := by
  have l1 := rx.length
  have le : (enumD ds).length = xs.length := by simp [enumD, l1]
  refine ⟨fun i F' H' e s hi => ?_, fun F' H' e s => ⟨xs, sqL_ex (e.trans s) hx, by rw [le]; exact Nat.le_refl _⟩, fun i F' H' x H'' e s hi y => ?_⟩
  · have hi : i < xs.length := by omega
    exact ⟨xs, xs[i], sqL_ex (e.trans s) hx, by simp [hi]⟩
  · obtain ⟨T, u, e1, e2, e3, e4⟩ := y
    subst e1 e3
    obtain ⟨d1, k1, k2⟩ := rx.get (e4 xs (sqL_ex (e.trans s) hx))
    refine ⟨_, .tup [.int (i : Nat), d1], by simp [enumD, k1], Grow.add s e2, .tup upd_same (.cons (.int _) (.cons ?_ .nil))⟩
    exact (k2.ex e).ex (Ex.new (fresh_sub s e2))
theorem di_enumA {elts : List Expr} {kk : Nat} {tpos : Pos} {iter : Expr} {f : Env → R (List D)} (b1 : PI X (.Tuple elts kk tpos) iter (iEnumT X.K (tDs X.K W f))) (b2 : PI X (.Tuple elts kk tpos) iter (iEnum X.K (tDs X.K W f))) (hl : ∀ ρ ds, f ρ = .ok ds → ds.length = 1) : DI X W (.Tuple elts kk tpos) iter (iEnumA f) := by
  refine pi_imp (pi_or2 b1 b2) fun σ H Q ⟨F0, H0, F, ρ, S, q⟩ => ?_
  unfold iEnumA at q
  cases ef : f ρ with
  | bad => rw [ef] at q; exact q.elim
  | exc c => rw [ef] at q; exact .inl (tDs_exc S ef q)
  | ok as =>
    rw [ef, R.bind_ok] at q
    match as, hl ρ as ef with
    | [.tup l], _ =>
      left
      refine tDs_ok S ef fun vs F1 H1 g1 r1 => ?_
      match r1 with
      | .cons r .nil => cases r with
        | tup e1 k1 => exact ⟨_, _, rfl, tT g1.sub e1, q _ F1 H1 g1 (good_enumT (SqT.of e1) k1)⟩
    | [.lst l], _ =>
      right
      refine tDs_ok S ef fun vs F1 H1 g1 r1 => ?_
      match r1 with
      | .cons r .nil => cases r with
        | lst e1 k1 => exact ⟨_, _, rfl, SqL.of (g1.sub _ _ e1), q _ F1 H1 g1 (good_enumL (SqL.of e1) k1)⟩
    | [.non], _ => exact q.elim
    | [.bl _], _ => exact q.elim
    | [.int _], _ => exact q.elim
    | [.str _], _ => exact q.elim
    | [.ty _], _ => exact q.elim
    | [.ref _], _ => exact q.elim
    | [.scr _], _ => exact q.elim
    | [.dI _ _], _ => exact q.elim
    | [.dT _ _], _ => exact q.elim
end
section
variable {P : Program} {w : World} {K : PySem.W.Frag} {mg : Str → Option Value} {base : Heap} {X : Cx} {W : WX} {N : List Str} {sc : Scope} {k : Nat} {pos : Pos}
theorem ienumA (C : Ctx P w K mg base X W N sc k) {e : Expr} {f : DL.Env → R (List D)} {p tpos : Pos} {elts : List Expr} {kk : Nat} (hm : mg "enumerate" = none) (hg : glB sc "enumerate" = true) (ha : DA X W [e] f) (hl : ∀ ρ ds, f ρ = .ok ds → ds.length = 1)
    (hs : starEach [e] X.env = [(false, eval e X.env)] := by rfl) : DI X W (.Tuple elts kk tpos) (.Call (.Name "enumerate" p) [e] [] pos) (iEnumA f) := di_enumA (pi_enumT (C.gl hg) (C.no hm) ha hs) (pi_enum (C.gl hg) (C.no hm) ha hs) hl
end
end DL

set_option Elab.async false
set_option linter.all false
set_option maxRecDepth 100000
set_option maxHeartbeats 1000000
/-! dict(d), d by tuples of ints whose hashes are apart. -/
namespace DL
variable [Tabs]
open PySem PySem.Spec PyProof.Rows L2
section
variable {prog : Program} {w : World} {κ : Type} [DecidableEq κ] {knd : HeapKind prog w κ} {A : Around} {E : Value → Shared → Prop} {s : Shared}
theorem call_dictH {o : Addr} {more : List (κ × Addr × Value)} {Q : Value → Shared → Prop} (hu : ∀ B : Around, B.units ≤ A.units + 4 → knd.room B) (hoS : (o == sysModules) = false) (ho : s.heap.DictOfH knd o more) (hsz : more.length ≤ sizeLine)
    (hty : ∀ x ∈ more, s.TypeIs (.ref x.2.1) "tuple") (hap : (more.map fun x => knd.hash x.1).Nodup) (hst : ∀ h', (∀ b o, s.heap.get? b = some o → h'.get? b = some o) → ∀ x ∈ more, knd.is h' x.1 x.2.1)
    (h : ∀ h', h'.DictOfH knd s.heap.objs.size more → Heap.SameBut s.heap.objs.size (s.heap.push { cls := .type "dict", data := .dict #[] }) h' → Q (.ref s.heap.objs.size) { s with heap := h' }) :
    wpAny (model prog w) A (call (.type "dict") [.ref o]) Q E s := by
  refine callType_codes (Q₁ := fun obj s₁ => obj = .ref s.heap.objs.size ∧ s₁ = { s with heap := s.heap.push { cls := .type "dict", data := .dict #[] } }) F.kt_called_dict (F.kt_typeCall_dict_1 _) F.entry_dict_init (kt_code_dict_new _ ⟨rfl, rfl⟩) ?_
  rintro obj s₁ ⟨rfl, rfl⟩
  have hnew : (s.heap.push { cls := .type "dict", data := .dict #[] }).DictOfH knd s.heap.objs.size [] := Heap.DictOfH.new s.heap
  have hps : ∀ b ob, s.heap.get? b = some ob → (s.heap.push { cls := .type "dict", data := .dict #[] }).get? b = some ob := fun b ob e => Heap.get?_push_of_some _ e
  have ho' : (s.heap.push { cls := .type "dict", data := .dict #[] }).DictOfH knd o more := by
    obtain ⟨oo, es, ep, h1, h2, h3, h4, h5, h6⟩ := ho
    exact ⟨oo, es, ep, hps _ _ h1, h2, h3, h4, hst _ hps, h6⟩
  have hn := ho.nodup
  have hdo : s.heap.objs.size ≠ o := by
    obtain ⟨_, _, _, hg, _⟩ := ho
    exact fun e => absurd (Heap.lt_size hg) (by rw [e]; exact Nat.lt_irrefl _)
  refine ⟨hnew.typeIs, F.args_dict_init_2 _ _, ?_⟩
  unfold Builtin.«dict.__init__»
  refine wpAny_bind ?_
  unfold Builtin.Dict.selfAndRest
  refine wpAny_bind (wpAny_notOrdered_dict hnew.typeIs ?_)
  show wpAny _ _ (pure (s.heap.objs.size, [Value.ref o])) _ _ _
  refine wpAny_pure ?_
  show wpAny _ _ (Builtin.Dict.updateFrom "dict.__init__" s.heap.objs.size (.ref o) [] .none) _ _ _
  unfold Builtin.Dict.updateFrom
  refine wpAny_bind (wpAny_typeOf ho'.typeIs ?_)
  rw [if_neg (by decide)]
  refine wpAny_bind ?_
  unfold Builtin.Dict.merge
  refine wpAny_bind ?_
  unfold Builtin.Dict.readDirectly
  refine wpAny_bind (wpAny_isInstance ho'.typeIs isSubtype_dict_dict ?_)
  simp only [Bool.not_true, Bool.false_eq_true, if_false]
  refine wpAny_bind (wpAny_specialOf ho'.typeIs F.slot_dict_iter.lookup (wpAny_pure ?_))
  simp only [beq_self_eq_true, if_true]
  refine wpAny_bind (wpAny_pure ?_)
  refine wpAny_mergeDict_heap (hsz := by simpa using hsz) (hu _ (show A.units + 1 + 1 ≤ A.units + 4 by omega)) hdo hoS hnew ho' (.inr ⟨fun x hx => ?ty, hap⟩) fun h' hd' _ hs' => ?_
  rotate_left
  · show wpAny _ _ (Builtin.Dict.addKeywords s.heap.objs.size [] >>= _) _ _ _
    rw [storedAllH_nil_of_nodup more hn] at hd'
    exact wpAny_bind (wpAny_pure (wpAny_pure ⟨rfl, h h' hd' hs'⟩))
  · obtain ⟨ob, e1, e2⟩ := hty x hx
    exact ⟨ob, hps _ _ e1, e2⟩
end
def tHash (k : List Int) : Int := reduceHash (Builtin.Tuple.tupleHashOf (k.map hashInt))
def apart (ks : List (List Int)) : Bool := decide ((ks.map tHash).Nodup)
section
variable {X : Cx} {pins : List (Addr × Obj)} {σ : L2.St} {H : Hp} {s : Shared} {a : Addr} {kvs : List (List Key × V)} {A : Around} {E : Value → Shared → Prop}
theorem tHash_eq (ks : List Int) : (tupleKind (mixKind X.prog X.w)).hash (ks.map Sum.inl) = tHash ks := by
  show reduceHash (Builtin.Tuple.tupleHashOf ((ks.map Sum.inl).map (keyH X.w))) = _
  rw [List.map_map]
  rfl
theorem kt_upd {p : Addr} {o : HO} (hp : H p = none) : ∀ {l : List (List Key × V)} {m : List (List Key × Addr × Value)}, KT H l m → KT (upd H p o) l m
  | _, _, .nil => .nil
  | _, _, .cons ⟨r1, r2, r3⟩ t => .cons ⟨r1, by rw [upd_ne (fun q => by rw [q, hp] at r2; cases r2)]; exact r2, r3⟩ (kt_upd hp t)
theorem d_copyOfT {Q : Value → Shared → Prop} {ks : List (List Int)} (hu : A.units + 4 < cLine) (I : Inv X pins σ H s) (e : Rd H a (.dT kvs)) (hk : kvs.map (·.1) = ks.map (·.map Sum.inl)) (hap : apart ks = true) (h : ∀ p s', H p = none → Inv X pins σ (upd H p (.dT kvs)) s' → Q (.ref p) s') : wpAny (model X.prog X.w) A (call (.type "dict") [.ref a]) Q E s := by
  obtain ⟨z, hd, xs, rel, dd⟩ := dt_rd I.hok e
  have hlx : kvs.length = xs.length := Paired.length rel
  have keys : xs.map (·.1) = ks.map (·.map Sum.inl) := by
    rw [← hk]
    clear hk hlx dd z e h
    induction rel with
    | nil => rfl
    | cons r t ih => simp only [List.map_cons, ih]; rw [r.1]
  have hash : (xs.map fun x => (tupleKind (mixKind X.prog X.w)).hash x.1) = ks.map tHash := by
    have : (xs.map fun x => (tupleKind (mixKind X.prog X.w)).hash x.1) = (xs.map (·.1)).map (tupleKind (mixKind X.prog X.w)).hash := by rw [List.map_map]; rfl
    rw [this, keys, List.map_map]
    exact List.map_congr_left fun k _ => tHash_eq k
  have is : ∀ {h' : Heap}, (∀ b o, s.heap.get? b = some o → h'.get? b = some o) → ∀ x ∈ xs, (tupleKind (mixKind X.prog X.w)).is h' x.1 x.2.1 := fun {h'} hs x hx => by
    obtain ⟨o, es, ep, h1, h2, h3, h4, h5, h6⟩ := dd
    obtain ⟨ob, it, m, e1, e2⟩ := h5 x hx
    exact ⟨ob, it, m, hs _ _ e1, e2⟩
  refine call_dictH (fun B hB => ?_) hd dd (by rw [← hlx]; exact z) (fun x hx => ?_) (by rw [hash]; exact of_decide_eq_true hap) (fun h' hs => is hs) fun h' dd' hs => ?_
  · show B.units < cLine
    omega
  · exact (is (fun b o e => e) x hx).typeIs
  · have old : ∀ b o, s.heap.get? b = some o → h'.get? b = some o := fun b q hq => (hs.2 b (Nat.ne_of_lt (Heap.lt_size hq))).trans (Heap.get?_push_of_some _ hq)
    refine h _ _ (I.hok.fresh (Nat.le_refl _)) (I.laid (a := s.heap.objs.size) (o := .dT kvs) (t' := s.toks) old (Nat.le_refl _) ?_)
    obtain ⟨o, es, ep, h1, h2, h3, h4, h5, h6⟩ := dd'
    exact ⟨z, beq_eq_false_iff_ne.mpr (Ne.symm (Nat.ne_of_lt I.big)), xs, kt_upd (I.hok.fresh (Nat.le_refl _)) rel, o, es, ep, h1, h2, h3, h4, h6⟩
/-- dict(d) by values -/
def rCpT : List V → Hp → VK → Prop := fun vs H Q => ∃ (a : Addr) (kvs : List (List Key × V)) (ks : List (List Int)), vs = [.ref a] ∧ Rd H a (.dT kvs) ∧ kvs.map (·.1) = ks.map (·.map Sum.inl) ∧ apart ks = true ∧ ∀ p, H p = none → Q (.ref p) (upd H p (.dT kvs))
theorem cr_dictT (hu : X.A.units + 65 < cLine) : CallR X (.type "dict") rCpT := by
  intro pins s σ H vs us Q I r q
  obtain ⟨a, kvs, ks, rfl, hd, hk, hap, q⟩ := q
  obtain ⟨u, rfl, ru⟩ := vals1 r
  obtain rfl : u = Value.ref a := ru
  exact d_copyOfT (by omega) I hd hk hap fun p s' hp I' => ⟨.ref p, _, I', rfl, q p hp⟩
end
section
variable {X : Cx} {W : WX} {pos : Pos}
def cpO : List D → Option Ow
  | [.dT ks vs] => if apart ks = true then some (.dT ks vs) else none
  | _ => none
def oDictCp (f : DL.Env → R (List D)) : DL.Env → R Ow := fun ρ => (f ρ).bind fun as => R.lift (cpO as)
theorem do_dictCp {p : Pos} {e : Expr} {es : List Expr} {as : DL.Env → R (List D)} (hu : X.A.units + 65 < cLine) (hg : Gl X "dict") (hm : X.mg "dict" = none) (ha : DA X W (e :: es) as) (he : starEach (e :: es) X.env = (false, eval e X.env) :: starEach es X.env := by rfl) (hpl : (backTo pos (starEach es X.env)).any (·.1) = false := by rfl) :
    DO X W (.Call (.Name "dict" p) (e :: es) [] pos) (oDictCp as) := by
  refine pe_imp (pe_callTy (cr_dictT hu) hg hm (by decide +kernel) ha (he := he) (hpl := hpl)) fun σ H Q ⟨F0, H0, F, ρ, S, q⟩ => ?_
  unfold oDictCp at q
  cases ef : as ρ with
  | bad => rw [ef] at q; exact q.elim
  | exc c => rw [ef] at q; exact tDs_exc S ef q
  | ok ds =>
    rw [ef, R.bind_ok] at q
    refine tDs_ok S ef fun vs F1 H1 g1 r1 => ?_
    cases eg : cpO ds with
    | none => rw [eg] at q; exact q.elim
    | some o =>
      rw [eg] at q
      unfold cpO at eg
      split at eg
      · split at eg
        · rename_i ks vals hap
          cases eg
          cases r1 with
          | cons r t =>
            cases t
            cases r with
            | @dT a o kvs _ _ e1 hk rv =>
              refine ⟨a, kvs, ks, rfl, .inr ⟨o, g1.sub _ _ e1⟩, hk, hap, fun p hp => ?_⟩
              exact q p _ F1 _ (g1.eh.fresh hp) (g1.trans (Grow.addH g1.sub hp)) (fresh_sub g1.sub hp) upd_same ⟨kvs, rfl, hk, rv⟩
        · cases eg
      · cases eg
end
section
variable {P : Program} {w : World} {K : PySem.W.Frag} {mg : Str → Option Value} {base : Heap} {X : Cx} {W : WX} {N : List Str} {sc : Scope} {k : Nat} {pos p : Pos}
theorem xdictCp (C : Ctx P w K mg base X W N sc k) {e : Expr} {es : List Expr} {as : DL.Env → R (List D)} (hm : mg "dict" = none) (hg : glB sc "dict" = true) (ha : DA X W (e :: es) as) (he : starEach (e :: es) X.env = (false, eval e X.env) :: starEach es X.env := by rfl) (hpl : (backTo pos (starEach es X.env)).any (·.1) = false := by rfl) :
    DO X W (.Call (.Name "dict" p) (e :: es) [] pos) (oDictCp as) := do_dictCp C.hu (C.gl hg) (C.no hm) ha he hpl
@[simp] theorem ev_dictCp {ρ : DL.Env} (f : DL.Env → R (List D)) : oDictCp f ρ = (f ρ).bind fun as => R.lift (cpO as) := rfl
end
end DL

set_option Elab.async false
set_option linter.all false
set_option maxRecDepth 100000
set_option maxHeartbeats 1000000
/-! Tests: k in d, k not in d of an own dict; a chain of three comparisons. -/
namespace DL
variable [Tabs]
open PySem PySem.Spec PyProof.Rows L2
section
variable {X : Cx} {W : WX} {pos : Pos}
theorem dt_inO {i : Nat} {x : Str} {p : Pos} {b : Expr} {fk : DL.Env → R D} (hu : X.A.units + 65 < cLine) (hx : PE X (.Name x p) (tVar i)) (hb : DE X W b fk) (hm : behindInMarks .In (.Name x p) = false := by rfl) : DT X W (.Compare b [.In] [.Name x p] pos) (asB (eInO false i fk)) :=
  pt_imp (pt_cmp (pc_din (by omega) hb hx) hm) fun σ H Q hh => by
    have := inO_of (asB_of hh)
    simp only [Bool.bne_false] at this
    exact this
theorem dt_notInO {i : Nat} {x : Str} {p : Pos} {b : Expr} {fk : DL.Env → R D} (hu : X.A.units + 65 < cLine) (hx : PE X (.Name x p) (tVar i)) (hb : DE X W b fk) (hm : behindInMarks .NotIn (.Name x p) = false := by rfl) : DT X W (.Compare b [.NotIn] [.Name x p] pos) (asB (eInO true i fk)) :=
  pt_imp (pt_cmp (pc_dnotin (by omega) hb hx) hm) fun σ H Q hh => by
    have := inO_of (asB_of hh)
    simp only [Bool.bne_true] at this
    exact this
/-! ### a op b op' c op'' d -/
def tChain3 (r r' r'' : R2) (ta tb tc td : TE) : TT := fun σ H Q => ta σ H fun x H1 => tb σ H1 fun y H2 => r x y H2 fun z H3 => ∃ k, z = .bl k ∧ (if k = true then tc σ H3 fun u H4 => r' y u H4 fun z' H5 => ∃ k', z' = .bl k' ∧ (if k' = true then td σ H5 fun v H6 => r'' u v H6 fun z'' H7 => ∃ k'', z'' = .bl k'' ∧ Q k'' H7 else Q false H5) else Q false H3)
theorem pt_chain3 {op op' op'' : CmpOp} {r r' r'' : R2} {a b c d : Expr} {ta tb tc td : TE} (ho : OpR X (compareOp op) r) (ho' : OpR X (compareOp op') r') (ho'' : OpR X (compareOp op'') r'') (ha : PE X a ta) (hb : PE X b tb) (hc : PE X c tc) (hd : PE X d td)
    (hm : lastMarks [op, op', op''] [b, c, d] = false := by with_unfolding_all rfl) : PT X (.Compare a [op, op', op''] [b, c, d] pos) (tChain3 r r' r'' ta tb tc td) := by
  refine ⟨fun pins s σ H Q I h => ?_⟩
  refine isTrue_chain (thn (ha.run pins s σ H _ I h) fun v s1 ⟨x, H1, I1, r1, q1⟩ => test_link (thn (hb.run pins s1 σ H1 _ I1 q1) fun u s2 ⟨y, H2, I2, r2, q2⟩ =>
    thn (ho pins s2 σ H2 x y v u _ I2 r1 r2 q2) fun d' s3 ⟨z, H3, I3, r3, k, e, q3⟩ => ?_)) hm
  subst e
  cases r3
  refine wpAny_truthy_bool ?_
  cases k with
  | false => exact ite_ff ⟨H3, I3, q3⟩
  | true =>
    refine ite_tt (test_link (thn (hc.run pins s3 σ H3 _ I3 q3) fun w' s4 ⟨z', H4, I4, r4, q4⟩ => thn (ho' pins s4 σ H4 y z' u w' _ I4 r2 r4 q4) fun d'' s5 ⟨z2, H5, I5, r5, k', e', q5⟩ => ?_))
    subst e'
    cases r5
    refine wpAny_truthy_bool ?_
    cases k' with
    | false => exact ite_ff ⟨H5, I5, q5⟩
    | true =>
      refine ite_tt (test_last (thn (hd.run pins s5 σ H5 _ I5 q5) fun w6 s6 ⟨z6, H6, I6, r6, q6⟩ => thn (ho'' pins s6 σ H6 z' z6 w' w6 _ I6 r4 r6 q6) fun d7 s7 ⟨z7, H7, I7, r7, k7, e7, q7⟩ => ?_))
      subst e7
      cases r7
      exact wpAny_truthy_bool ⟨H7, I7, q7⟩
def ch3 (g g' g'' : D → D → Option D) (fa fb fc fd : DL.Env → R D) : DL.Env → R Bool := fun ρ => (fa ρ).bind fun a => (fb ρ).bind fun b => (R.lift (g a b)).bind fun z => match z with
  | .bl true => (fc ρ).bind fun c => (R.lift (g' b c)).bind fun z' => (match z' with
    | .bl true => (fd ρ).bind fun d => (R.lift (g'' c d)).bind fun z'' => (match z'' with
      | .bl k => .ok k
      | _ => .bad)
    | .bl false => .ok false
    | _ => .bad)
  | .bl false => .ok false
  | _ => .bad
theorem dt_chain3 {op op' op'' : CmpOp} {r r' r'' : R2} {g g' g'' : D → D → Option D} {a b c d : Expr} {fa fb fc fd : DL.Env → R D} (ho : OpR X (compareOp op) r) (ho' : OpR X (compareOp op') r') (ho'' : OpR X (compareOp op'') r'') (hs : OpS X.K r g) (hs' : OpS X.K r' g') (hs'' : OpS X.K r'' g'')
    (ha : DE X W a fa) (hb : DE X W b fb) (hc : DE X W c fc) (hd : DE X W d fd) (hm : lastMarks [op, op', op''] [b, c, d] = false := by with_unfolding_all rfl) : DT X W (.Compare a [op, op', op''] [b, c, d] pos) (ch3 g g' g'' fa fb fc fd) := by
  refine pt_imp (pt_chain3 ho ho' ho'' ha hb hc hd (hm := hm)) fun σ H Q ⟨F0, H0, F, ρ, S, q⟩ => ?_
  unfold ch3 at q
  show tD X.K W fa σ H fun x H1 => tD X.K W fb σ H1 fun y H2 => r x y H2 fun z H3 => ∃ k, z = .bl k ∧ (if k = true then tD X.K W fc σ H3 fun u H4 => r' y u H4 fun z' H5 => ∃ k', z' = .bl k' ∧ (if k' = true then tD X.K W fd σ H5 fun v H6 => r'' u v H6 fun z'' H7 => ∃ k'', z'' = .bl k'' ∧ Q k'' H7 else Q false H5) else Q false H3)
  cases ea : fa ρ with
  | bad => rw [ea] at q; exact q.elim
  | exc c => rw [ea] at q; exact tD_exc S ea q
  | ok da =>
    rw [ea, R.bind_ok] at q
    refine tD_ok S ea fun x F1 H1 g1 r1 => ?_
    cases eb : fb ρ with
    | bad => rw [eb] at q; exact q.elim
    | exc c => rw [eb] at q; exact tD_exc (S.go g1) eb fun F2 H2 g2 => q F2 H2 (g1.trans g2)
    | ok db =>
      rw [eb, R.bind_ok] at q
      refine tD_ok (S.go g1) eb fun y F2 H2 g2 r2 => ?_
      cases eg : g da db with
      | none => rw [eg] at q; exact q.elim
      | some dz =>
        rw [eg, R.lift_some, R.bind_ok] at q
        refine hs F2 H2 x y da db dz _ g2.sub (r1.ex g2.ef) r2 eg fun v F3 H3 g3 r3 => ?_
        have G := (g1.trans g2).trans g3
        cases r3 with
        | bl k =>
          refine ⟨k, rfl, ?_⟩
          cases k with
          | false => rw [if_neg Bool.false_ne_true]; exact q F3 H3 G
          | true =>
            rw [if_pos rfl]
            cases ec : fc ρ with
            | bad => simp [ec] at q
            | exc c => simp only [ec, R.bind_exc] at q; exact tD_exc (S.go G) ec fun F4 H4 g4 => q F4 H4 (G.trans g4)
            | ok dc =>
              simp only [ec, R.bind_ok] at q
              refine tD_ok (S.go G) ec fun u F4 H4 g4 r4 => ?_
              cases eg' : g' db dc with
              | none => rw [eg'] at q; exact q.elim
              | some dz' =>
                rw [eg', R.lift_some, R.bind_ok] at q
                refine hs' F4 H4 y u db dc dz' _ g4.sub (r2.ex (g3.ef.trans g4.ef)) r4 eg' fun v' F5 H5 g5 r5 => ?_
                have G5 := (G.trans g4).trans g5
                cases r5 with
                | bl k' =>
                  refine ⟨k', rfl, ?_⟩
                  cases k' with
                  | false => rw [if_neg Bool.false_ne_true]; exact q F5 H5 G5
                  | true =>
                    rw [if_pos rfl]
                    cases ed : fd ρ with
                    | bad => simp [ed] at q
                    | exc c => simp only [ed, R.bind_exc] at q; exact tD_exc (S.go G5) ed fun F6 H6 g6 => q F6 H6 (G5.trans g6)
                    | ok dd =>
                      simp only [ed, R.bind_ok] at q
                      refine tD_ok (S.go G5) ed fun t F6 H6 g6 r6 => ?_
                      cases eg'' : g'' dc dd with
                      | none => rw [eg''] at q; exact q.elim
                      | some dz'' =>
                        rw [eg'', R.lift_some, R.bind_ok] at q
                        refine hs'' F6 H6 u t dc dd dz'' _ g6.sub (r4.ex (g5.ef.trans g6.ef)) r6 eg'' fun v'' F7 H7 g7 r7 => ?_
                        cases r7 with
                        | bl k'' => exact ⟨k'', rfl, q F7 H7 ((G5.trans g6).trans g7)⟩
                        | _ => exact q.elim
                | _ => exact q.elim
        | _ => exact q.elim
end
section
variable {P : Program} {w : World} {K : PySem.W.Frag} {mg : Str → Option Value} {base : Heap} {X : Cx} {W : WX} {N : List Str} {sc : Scope} {k : Nat} {pos p : Pos}
theorem zinO (C : Ctx P w K mg base X W N sc k) (i : Nat) {x : Str} {q : Pos} {b : Expr} {fk : DL.Env → R D} (h : N[i]? = some x) (hv : visB sc x = true) (hb : DE X W b fk) (hd : (x == ("__debug__" : Str)) = false := by decide) (hcd : (x == ("__classdict__" : Str)) = false := by decide) : DT X W (.Compare b [.In] [.Name x q] pos) (asB (eInO false i fk)) :=
  dt_inO C.hu (pe_var (C.at h) (C.vis hv) hd hcd) hb
theorem znotInO (C : Ctx P w K mg base X W N sc k) (i : Nat) {x : Str} {q : Pos} {b : Expr} {fk : DL.Env → R D} (h : N[i]? = some x) (hv : visB sc x = true) (hb : DE X W b fk) (hd : (x == ("__debug__" : Str)) = false := by decide) (hcd : (x == ("__classdict__" : Str)) = false := by decide) : DT X W (.Compare b [.NotIn] [.Name x q] pos) (asB (eInO true i fk)) :=
  dt_notInO C.hu (pe_var (C.at h) (C.vis hv) hd hcd) hb
@[simp] theorem ev_ch3 {ρ : DL.Env} (g g' g'' : D → D → Option D) (fa fb fc fd : DL.Env → R D) : ch3 g g' g'' fa fb fc fd ρ = (fa ρ).bind fun a => (fb ρ).bind fun b => (R.lift (g a b)).bind fun z => match z with
  | .bl true => (fc ρ).bind fun c => (R.lift (g' b c)).bind fun z' => (match z' with
    | .bl true => (fd ρ).bind fun d => (R.lift (g'' c d)).bind fun z'' => (match z'' with
      | .bl k => .ok k
      | _ => .bad)
    | .bl false => .ok false
    | _ => .bad)
  | .bl false => .ok false
  | _ => .bad := rfl
end
end DL

set_option Elab.async false
set_option linter.all false
set_option maxRecDepth 100000
set_option maxHeartbeats 1000000
/-! <= of ints and of tuples of ints. -/
namespace DL
variable [Tabs]
open PySem L2
open Evl (Ex)
def leI (ns ms : List Int) : Bool := Ob.lexAt (fun j => decide (ns.getD j 0 = ms.getD j 0)) (fun j => decide (ns.getD j 0 ≤ ms.getD j 0)) (decide (ns.length ≤ ms.length)) 0 (min ns.length ms.length)
def gLe : D → D → Option D
  | .int i, .int j => some (.bl (decide (i ≤ j)))
  | .tup a, .tup b => (asInts a).bind fun ns => (asInts b).map fun ms => .bl (leI ns ms)
  | _, _ => none
theorem ops_leD {K : PySem.W.Frag} : OpS K (fun x y H Q => rI0 (fun i j => .bl (decide (i ≤ j))) x y H Q ∨ rLeT K x y H Q) gLe := fun F H x y a b d Q s ra rb e q => by
  unfold gLe at e
  split at e
  · cases e
    cases ra
    cases rb
    exact .inl ⟨_, _, rfl, rfl, q _ F H (Grow.refl s) (.bl _)⟩
  · rename_i la lb
    cases ea : asInts la with
    | none => rw [ea] at e; cases e
    | some ns =>
      rw [ea, Option.bind_some] at e
      cases eb : asInts lb with
      | none => rw [eb] at e; cases e
      | some ms =>
        rw [eb, Option.map_some] at e
        cases e
        cases asInts_eq ea
        cases asInts_eq eb
        cases ra with
        | tup e1 r1 => cases rb with
          | tup e2 r2 =>
            refine .inr ⟨_, _, ns, ms, rfl, rfl, ?_, ?_, q _ F H (Grow.refl s) (.bl _)⟩
            · rw [← r1.of_ints]; exact tT s e1
            · rw [← r2.of_ints]; exact tT s e2
  · cases e
section
variable {X : Cx} {W : WX} {pos : Pos}
theorem de_leD (hu : X.A.units + 65 < cLine) {a b : Expr} {fa fb : Env → R D} (ha : DE X W a fa) (hb : DE X W b fb) : DE X W (.Compare a [.LtE] [b] pos) (op2 gLe fa fb) := de_cmp (op_le.or (op_leT (by omega))) ops_leD ha hb (nomark _)
theorem dt_leD (hu : X.A.units + 65 < cLine) {a b : Expr} {fa fb : Env → R D} (ha : DE X W a fa) (hb : DE X W b fb) : DT X W (.Compare a [.LtE] [b] pos) (asB (op2 gLe fa fb)) := dt_cmp (op_le.or (op_leT (by omega))) ops_leD ha hb (nomark _)
end
end DL

set_option Elab.async false
set_option linter.all false
set_option maxRecDepth 100000
set_option maxHeartbeats 1000000
/-! > of ints and of data (tuples). -/
namespace DL
variable [Tabs]
open PySem PySem.Spec PySem.W PySem.SeqAt PyProof.Rows L2
open Evl (Ex)
def gGt : D → D → Option D
  | .int i, .int j => some (.bl (decide (j < i)))
  | a, b => if cmpOk a b then some (.bl (dataLt (toP b) (toP a))) else none
def rGtD (K : PySem.W.Frag) : R2 := fun x y H Q => ∃ d e, Dp K H x d ∧ Dp K H y e ∧ alike d e = true ∧ d ≠ .none ∧ d.depth ≤ 8 ∧ Q (.bl (dataLt e d)) H
theorem op_gtD {X : Cx} (hu : X.A.units + 65 < cLine) : OpR X (compareOp .Gt) (rGtD X.K) := by
  intro pins s σ H x y v u Q I rx ry h
  obtain ⟨d, e, hd, he, ha, hn, hdp, q⟩ := h
  obtain ⟨as, r1⟩ := Dp.reads I d x v hd rx
  obtain ⟨bs, r2⟩ := Dp.reads I e y u he ry
  exact gt_data r1 r2 ha hn (by have := Nat.min_le_left d.depth e.depth; omega) ⟨.bl _, H, I, rfl, q⟩
theorem ops_gtD {K : PySem.W.Frag} : OpS K (fun x y H Q => rI0 (fun i j => .bl (decide (j < i))) x y H Q ∨ rGtD K x y H Q) gGt := fun F H x y a b d Q s ra rb e q => by
  unfold gGt at e
  split at e
  · cases e
    cases ra
    cases rb
    exact .inl ⟨_, _, rfl, rfl, q _ F H (Grow.refl s) (.bl _)⟩
  · split at e
    · rename_i h
      cases e
      unfold cmpOk at h
      simp only [Bool.and_eq_true] at h
      obtain ⟨h1, h2, h3, h4⟩ := h
      refine .inr ⟨_, _, ra.dp s h1, rb.dp s h2, h3, ?_, (dok_lay 8 a h1).2, q _ F H (Grow.refl s) (.bl _)⟩
      cases a <;> simp at h4
      exact fun z => by cases z
    · cases e
section
variable {X : Cx} {W : WX} {pos : Pos}
theorem de_gtD (hu : X.A.units + 65 < cLine) {a b : Expr} {fa fb : DL.Env → R D} (ha : DE X W a fa) (hb : DE X W b fb) : DE X W (.Compare a [.Gt] [b] pos) (op2 gGt fa fb) := de_cmp (op_gt.or (op_gtD hu)) ops_gtD ha hb (nomark _)
theorem dt_gtD (hu : X.A.units + 65 < cLine) {a b : Expr} {fa fb : DL.Env → R D} (ha : DE X W a fa) (hb : DE X W b fb) : DT X W (.Compare a [.Gt] [b] pos) (asB (op2 gGt fa fb)) := dt_cmp (op_gt.or (op_gtD hu)) ops_gtD ha hb (nomark _)
end
end DL

set_option Elab.async false
set_option linter.all false
set_option maxRecDepth 100000
set_option maxHeartbeats 2000000
/-! sorted(xs, key=f), f a def of the program that gives tuples. -/
namespace DL
variable [Tabs]
open PySem PySem.Spec PySem.W PySem.SeqAt PyProof.Rows L2
open Evl (Ex)
/-- the key that a def gives -/
def keyD (m : List D → R D) (d : D) : D := match m [d] with
  | .ok k => k
  | _ => .non
def keysOk (m : List D → R D) (l : List D) : Bool := l.all fun d => match m [d] with
  | .ok _ => true
  | _ => false
def leKey (m : List D → R D) (a b : D) : Bool := dataLe false (fun d => toP (keyD m d)) a b
theorem keysOk_at {m : List D → R D} {l : List D} (h : keysOk m l = true) {d : D} (hd : d ∈ l) : m [d] = .ok (keyD m d) := by
  have := List.all_eq_true.mp h d hd
  unfold keyD
  cases e : m [d] with
  | ok k => rfl
  | exc c => rw [e] at this; cases this
  | bad => rw [e] at this; cases this
section
variable {X : Cx} {pins : List (Addr × Obj)} {σ : L2.St} {H : Hp} {s : Shared}
theorem fresh_not (I : Inv X pins σ H s) {it : Addr} (hp : s.heap.objs.size ≤ it) : it ≠ X.env.locals ∧ (it ∈ X.ex ∨ X.s_0.heap.objs.size ≤ it) ∧ (∀ x c, X.env.cells.lookup x = some c → c ≠ it) ∧ (∀ p ∈ X.pn ++ pins, p.1 ≠ it) ∧ it ∉ frs X.stack := by
  have hl := I.lt
  refine ⟨fun z => by rw [z] at hp; exact absurd hl (Nat.not_lt.mpr hp), .inr (Nat.le_trans I.sz hp), fun x c e z => ?_, fun p hq z => ?_, fun hb => ?_⟩
  · obtain ⟨v, o, ho, _⟩ := I.cell x c e
    rw [z] at ho
    exact absurd (Heap.lt_size ho) (Nat.not_lt.mpr hp)
  · have ho := (I.pin p hq).1
    rw [z] at ho
    exact absurd (Heap.lt_size ho) (Nat.not_lt.mpr hp)
  · rcases List.mem_cons.mp (I.stkSub it hb) with z | z
    · rw [z] at hp; exact absurd hl (Nat.not_lt.mpr hp)
    · exact I.nofs hp z
/-- one key -/
theorem key_turn {f : Addr} {m : List D → R D} {j k : Nat} {F : Hp} {x : V} {u : Value} {d kd : D} (tb : ∀ P ∈ Tabs.all, TabRep F H P) (h : FdA X.prog X.w X.K X.mg X.base j f 1 m) (hr : Room k X.A) (hj : j + 1 ≤ k) (I : Inv X pins σ H s) (sub : Ex F H) (ru : RelV x u) (rx : Rep X.K F x d) (em : m [d] = .ok kd) :
    wpAny (model X.prog X.w) X.A.in1.in1 (call (.ref f) [u]) (fun v s2 => ∃ H2 F2 y, Inv X pins σ H2 s2 ∧ Grow F H F2 H2 ∧ RelV y v ∧ Rep X.K F2 y kd ∧ Un (frs X.stack) [] H H2 s.heap s2.heap) (fun _ _ => False) s := by
  obtain ⟨fd, ps, Fk, kp, hb⟩ := h.ex
  have hsp : spD X.K 1 m [x] H (fun y H2 => ∃ F2, Grow F H F2 H2 ∧ Rep X.K F2 y kd) (fun _ _ _ => False) := ⟨F, [d], sub, tb, .cons rx .nil, rfl, by
    rw [em]
    exact fun v F2 H2 g r => ⟨F2, g, r⟩⟩
  have room : Room j X.A.in1.in1 := ⟨hr.hd, by have := hr.dp; show X.A.depth + 3 * j + 5 < recursionLimit; omega, by have := hr.un; show X.A.units + 1 + 1 + 16 * j + 200 < cLine; omega⟩
  have hl : ([u] ++ []).length = ps.length := (Fk.len _ _ _ _ hsp)
  refine wpAny_call (codeAny_mono (Fk.run X.A.in1.in1 X.stack s H ⟨[u], []⟩ [u] [x] _ _ room I.env0.in1.in1 (hb s [u] I.kIn hl) (.cons ru .nil) hsp) fun r s2 hq => ?_)
  cases r with
  | error e =>
    obtain ⟨_, _, _, _, _, _, _, _, _, _, _, _, z⟩ := hq
    exact z
  | ok fl =>
    cases fl with
    | ret v =>
      obtain ⟨y, H2, os, bare, un, hok, r, F2, g, q⟩ := hq
      exact ⟨H2, F2, y, I.call' os un hok bare (fun b z => absurd z (by simp)), g, r, q, un⟩
    | next => exact False.elim hq
    | brk => exact False.elim hq
    | cont => exact False.elim hq
end
def rSK (K : PySem.W.Frag) (f : Addr) (m : List D → R D) : List V → List V → Hp → VK → Prop := fun vs zs H Q => ∃ F a xs dl, vs = [.ref a] ∧ zs = [.ref f] ∧ Ex F H ∧ (∀ P ∈ Tabs.all, TabRep F H P) ∧ SqL K H a xs ∧ Reps K F xs dl ∧ keysOk m dl = true ∧ sortable (dl.map (keyD m)) = true ∧
  ∀ p ys F2 H2, Grow F H F2 H2 → H2 p = none → ys.length = xs.length → Reps K F2 ys (dl.mergeSort (leKey m)) → Q (.ref p) (upd H2 p (.lst ys))
theorem each_ex {K : PySem.W.Frag} {F F2 : Hp} (e : Ex F F2) {us : List Value} {dl : List D} (h : EachIs (fun u d => ∃ x, RelV x u ∧ Rep K F x d) us dl) : EachIs (fun u d => ∃ x, RelV x u ∧ Rep K F2 x d) us dl :=
  each_same (fun u d _ ⟨x, h1, h2⟩ => ⟨x, h1, h2.ex e⟩) h
theorem reps_snoc {K : PySem.W.Frag} {F : Hp} {x : V} {d : D} : ∀ {xs : List V} {ds : List D}, Reps K F xs ds → Rep K F x d → Reps K F (xs ++ [x]) (ds ++ [d])
  | _, _, .nil, r => .cons r .nil
  | _, _, .cons a t, r => .cons a (reps_snoc t r)
theorem vals_snoc {x : V} {u : Value} : ∀ {xs : List V} {us : List Value}, Vals xs us → RelV x u → Vals (xs ++ [x]) (us ++ [u])
  | _, _, .nil, r => .cons r .nil
  | _, _, .cons a t, r => .cons a (vals_snoc t r)
theorem each_at {α β : Type} {R : α → β → Prop} : ∀ {as : List α} {bs : List β} {i : Nat} {a : α}, EachIs R as bs → as[i]? = some a → ∃ b, bs[i]? = some b ∧ R a b
  | _, _, 0, _, .cons r t, h => ⟨_, rfl, by cases h; exact r⟩
  | _, _, i + 1, _, .cons r t, h => each_at (i := i) t h
theorem cr_sortedKeyF {X : Cx} {f : Addr} {m : List D → R D} {j k : Nat} (h : FdA X.prog X.w X.K X.mg X.base j f 1 m) (hr : Room k X.A) (hj : j + 1 ≤ k) (hu : X.A.units + 65 < cLine) : CallRK X (.builtin "sorted") [Str.ofString "key"] (rSK X.K f m) := by
  intro pins s σ H vs zs us ws Q I r rz hh
  obtain ⟨F, a, xs, dl, rfl, rfl, sub, tb, hs, rp, kOk, so, q⟩ := hh
  obtain ⟨its, rv, hl, hz⟩ := I.list hs
  obtain ⟨u, rfl, ru⟩ := vals1 r
  obtain rfl : u = Value.ref a := ru
  obtain ⟨w1, rfl, rw1⟩ := vals1 rz
  obtain rfl : w1 = Value.ref f := rw1
  have each := each_of rv rp
  have hlen : its.length = dl.length := each.length
  have hzi : its.length ≤ sizeLine := by rw [← rv.length]; exact hz
  show wpAny (model X.prog X.w) X.A (call (.builtin "sorted") [.ref a] [(Str.ofString "key", .ref f)]) _ _ s
  refine sorted_of_sort hl.isList hzi (ksk_s1 _ _) (fun _ => ksk_l1 _ _) fun E' => ?_
  rw [ksk_t1]
  obtain ⟨b0, hb0⟩ : ∃ b0, b0 = s.heap.objs.size + 1 := ⟨_, rfl⟩
  obtain ⟨h1, hh1⟩ : ∃ h1, h1 = sortingHeap (copyHeap s.heap its) (s.heap.objs.size + 1) its := ⟨_, rfl⟩
  have old : ∀ b o, s.heap.get? b = some o → h1.get? b = some o := fun b o e => by rw [hh1]; exact sorting_copy_old e
  have at0 := copyHeap_at s.heap its
  have csz : (copyHeap s.heap its).objs.size = s.heap.objs.size + 2 := by
    unfold copyHeap
    rw [size_push', Heap.size_update, size_push']
  obtain ⟨e1, at1⟩ : ∃ e1, ((copyHeap s.heap its).update (s.heap.objs.size + 1) (Obj.mapSeq fun _ => (#[] : Array Value))).get? (s.heap.objs.size + 1) = some (seqObj "list" #[] e1) := ⟨_, get?_update_seq at0 fun _ => #[]⟩
  obtain ⟨kS, hkS⟩ : ∃ kS, kS = (((copyHeap s.heap its).update (s.heap.objs.size + 1) (Obj.mapSeq fun _ => (#[] : Array Value))).push (seqObj "tuple" its.toArray 0)).objs.size := ⟨_, rfl⟩
  have hkS2 : kS = s.heap.objs.size + 3 := by rw [hkS, size_push', Heap.size_update, csz]
  have fb := fresh_not I (it := b0) (by omega)
  have fk := fresh_not I (it := kS) (by omega)
  have hne : b0 ≠ kS := by omega
  unfold ksk_tree
  refine wpAny_bind (listItems_at at0 rfl ?_)
  refine wpAny_bind (listUpdate_at at0 rfl ?_ (by rw [List.size_toArray]; exact hzi) (Nat.zero_le _))
  refine wpAny_bind (seqEpoch_at at1 rfl ?_)
  refine wpAny_bind (wpAny_newTuple ?_ (by show its.length ≤ _; exact hzi))
  refine wpAny_bind (wpAny_newList ?_ (Nat.zero_le _))
  refine wpAny_holding ?_
  have I1 : Inv X pins σ H { s with heap := h1 } := I.kept (t' := s.toks) old
  have k1 : h1.get? kS = some (seqObj "list" #[] 0) := by rw [hh1, hkS]; exact Heap.get?_push_size _ rfl
  have b1 : h1.get? b0 = some (seqObj "list" #[] e1) := by rw [hh1, hb0]; exact Heap.get?_push_of_some _ (Heap.get?_push_of_some _ at1)
  have nk0 : H kS = none := I.hok.fresh (by omega)
  have nb0 : H b0 = none := I.hok.fresh (by omega)
  show wpAny (model X.prog X.w) X.A.in1.in1 (ksk_rest (s.heap.objs.size + 1) (.ref f) false its.toArray e1 (.ref (((copyHeap s.heap its).update (s.heap.objs.size + 1) (Obj.mapSeq fun _ => (#[] : Array Value))).push (seqObj "tuple" its.toArray 0)).objs.size)) (fun g s' => g = Fin.done (Flow.ret Value.none) ∧ EP X pins σ Q (.ref (s.heap.objs.size + 1)) s') E' { s with heap := sortingHeap (copyHeap s.heap its) (s.heap.objs.size + 1) its }
  rw [← hkS, ← hh1, ← hb0]
  unfold ksk_rest
  refine wpAny_bind (wpAny_rule ?_)
  first
    | rw [List.forIn_toArray]
    | rw [← Array.forIn_toList]
  refine wpAny_bind (ksk_fold (fun i t => ∃ H2 F2 kvs kA e, Inv X pins σ H2 t ∧ Grow F H F2 H2 ∧ t.heap.get? kS = some (seqObj "list" kA e) ∧ H2 kS = none ∧ t.heap.get? b0 = some (seqObj "list" #[] e1) ∧ H2 b0 = none ∧ Vals kvs kA.toList ∧ Reps X.K F2 kvs ((dl.take i).map (keyD m))) its 0 _
    ⟨H, F, [], #[], 0, I1, Grow.refl sub, k1, nk0, b1, nb0, .nil, by rw [List.take_zero]; exact .nil⟩ ?step ?done)
  case step =>
    rintro i u t hi ⟨H2, F2, kvs, kA, e, J, g, k2, nk2, b2, nb2, vk, rk⟩
    rw [Nat.zero_add] at rk ⊢
    have hil : i < its.length := (List.getElem?_eq_some_iff.mp hi).1
    obtain ⟨d, hd, x, rx, rd⟩ := each_at each hi
    have em := keysOk_at kOk (List.mem_of_getElem? hd)
    have ksz : kA.size ≤ its.length := by
      have a1 := vk.length
      have a2 := rk.length
      have a3 : kA.toList.length = kA.size := Array.length_toList
      rw [a3] at a1
      rw [List.length_map, List.length_take] at a2
      rw [← a1, a2, hlen]
      exact Nat.min_le_right _ _
    refine wpAny_bind (wpAny_attempt (wpAny_mono (key_turn (fun P h => (tb P h).go g) h hr hj J g.sub rx (rd.ex g.ef) em) (fun v t2 hv => ?_) fun _ _ z => z.elim))
    obtain ⟨H3, F3, y, J3, g3, ry, rey, un⟩ := hv
    have k3 := un.keep kS _ k2 nk2 fk.2.2.2.2 (by simp)
    have nk3 := un.free kS _ k2 nk2 (by simp)
    have b3 := un.keep b0 _ b2 nb2 fb.2.2.2.2 (by simp)
    have nb3 := un.free b0 _ b2 nb2 (by simp)
    have sb := Heap.SameBut.update t2.heap kS (Obj.mapSeq (·.push v))
    obtain ⟨c2, hc2⟩ : ∃ c2, (t2.heap.update kS (Obj.mapSeq (·.push v))).get? kS = some (seqObj "list" (kA.push v) c2) := ⟨_, get?_update_seq k3 (·.push v)⟩
    dsimp only
    refine wpAny_bind (listUpdate_at k3 rfl ?_ (Nat.le_trans ksz hzi) (by rw [Array.size_push]; exact Nat.succ_le_succ (Nat.le_trans ksz hzi)))
    have J4 : Inv X pins σ H3 { t2 with heap := t2.heap.update kS (Obj.mapSeq (·.push v)), toks := t2.toks } := J3.turned (t' := t2.toks) (fun b o hb e => (sb.2 b hb).trans e) nk3 fk.1 fk.2.1 fk.2.2.1 fk.2.2.2.1
    refine wpAny_pure ⟨rfl, H3, F3, kvs ++ [y], kA.push v, c2, J4, g.trans g3, hc2, nk3, (sb.2 b0 hne).trans b3, nb3, ?_, ?_⟩
    · rw [Array.toList_push]
      exact vals_snoc vk ry
    · have ek : dl.take (i + 1) = dl.take i ++ [d] := by rw [List.take_add_one, hd]; rfl
      rw [ek, List.map_append]
      exact reps_snoc (rk.ex g3.ef) rey
  case done =>
    rintro t ⟨H2, F2, kvs, kA, e, J, g, k2, nk2, b2, nb2, vk, rk⟩
    rw [Nat.zero_add, List.take_of_length_le (by omega)] at rk
    have ksz : kA.size = its.length := by
      have a1 := vk.length
      have a2 := rk.length
      have a3 : kA.toList.length = kA.size := Array.length_toList
      rw [a3] at a1
      rw [List.length_map] at a2
      rw [← a1, a2, hlen]
    unfold sortable at so
    simp only [Bool.and_eq_true] at so
    obtain ⟨s1, s2, s3⟩ := so
    have kd : ∀ d ∈ dl.map (keyD m), dok 7 d = true := by rw [doks_all] at s2; exact List.all_eq_true.mp s2
    have er : EachIs (fun v d => ∃ as, Reads t.heap v d as) kA.toList ((dl.map (keyD m)).map toP) := each_map (fun v d hd ⟨x, hx, hr⟩ => Dp.reads J (toP d) x v (hr.dp g.sub (kd d hd)) hx) (each_of vk rk)
    have hal : AllAlike ((dl.map (keyD m)).map toP) := fun d hd d' hd' => by
      obtain ⟨z, hz, rfl⟩ := List.mem_map.mp hd
      obtain ⟨z', hz', rfl⟩ := List.mem_map.mp hd'
      exact List.all_eq_true.mp (List.all_eq_true.mp s3 z hz) z' hz'
    have ht : ∀ d ∈ (dl.map (keyD m)).map toP, ∃ ys, d = .tuple ys := fun d hd => by
      obtain ⟨z, hz, rfl⟩ := List.mem_map.mp hd
      have := List.all_eq_true.mp s1 z hz
      cases z <;> simp [tupB] at this
      exact ⟨_, rfl⟩
    have hdep : ∀ d ∈ (dl.map (keyD m)).map toP, X.A.in1.in1.units + d.depth < cLine := fun d hd => by
      obtain ⟨z, hz, rfl⟩ := List.mem_map.mp hd
      have := (dok_lay 7 z (kd z hz)).2
      have e1 : X.A.in1.in1.units = X.A.units + 2 := rfl
      omega
    have S : SortsAt X.prog X.w X.A.in1.in1 t (dataKind t.heap ((dl.map (keyD m)).map toP)) kA.toList := sorts_tuples er hal ht hdep
    obtain ⟨G, G1, G2⟩ := restrict t.heap fun b => !decide (b = kS)
    have kb : KeepsBut b0 G t.heap := fun b o _ hb => by
      by_cases c : b = kS
      · rw [G2 b (by simp [c])] at hb; cases hb
      · rw [← G1 b (by simp [c])]; exact hb
    refine wpAny_bind (listItems_at k2 rfl ?_)
    refine keyH_end (κ := dataKind t.heap ((dl.map (keyD m)).map toP)) (h₁ := G) kb (G2 kS (by simp)) k2 b2 (Ne.symm hne) S ksz hzi fun h3 tk c kp3 n3 => ?_
    have keep3 : ∀ b o, b ≠ b0 → b ≠ kS → t.heap.get? b = some o → h3.get? b = some o := fun b o n1 n2 e => kp3 b o n1 (by rw [G1 b (by simp [n2])]; exact e)
    have e2 : (dl.map (keyD m)).map toP = dl.map fun d => toP (keyD m d) := by rw [List.map_map]; rfl
    have out := keyedOut_each (rev := false) (fun d : D => toP (keyD m d)) (vs := its) (out := sortVals (dataKind t.heap ((dl.map (keyD m)).map toP)) false kA.toList its) (bs := dl) (by rw [← e2]; exact ⟨t.heap, kA.toList, hal, rfl, er⟩) (each_ex g.ef each)
    obtain ⟨ys, v1, v2⟩ := each_back out
    have yl : ys.length = xs.length := by
      rw [v2.length, rp.length]
      exact List.length_mergeSort _
    have there3 : ∃ o, h3.get? b0 = some o := ⟨_, n3⟩
    have un : Un (frs X.stack) [b0, kS] H2 (upd H2 b0 (.lst ys)) t.heap h3 := by
      have nn : ∀ b, b ∉ [b0, kS] → b ≠ b0 ∧ b ≠ kS := fun b hb => by simpa using hb
      have ne : ∀ b o, H2 b = some o → b ≠ b0 := fun b o e z => by rw [z, nb2] at e; cases e
      refine ⟨fun b o e _ _ hx => keep3 b o (nn b hx).1 (nn b hx).2 e, fun b o e _ _ hx => ⟨o.slots, keep3 b o (nn b hx).1 (nn b hx).2 e⟩, fun b o _ n hx => by rw [upd_ne (nn b hx).1]; exact n, fun b o e hx => ⟨o, keep3 b o (nn b hx).1 (nn b hx).2 e⟩, fun b l e => by rw [upd_ne (ne b _ e)]; exact e, fun b o l e => by rw [upd_ne (ne b _ e)]; exact e, fun b l e => ⟨#[], by rw [upd_ne (ne b _ e), e]; simp⟩⟩
    have hok : HOk X.prog X.w (upd H2 b0 (.lst ys)) h3 := fun b o e => by
      by_cases c : b = b0
      · subst c
        rw [upd_same] at e
        cases e
        exact ⟨by rw [yl]; exact hz, _, _, v1, n3⟩
      · rw [upd_ne c] at e
        have ne : ∀ z w, H2 z = some w → z ≠ b0 ∧ z ≠ kS := fun z w e => ⟨fun y => (by rw [y, nb2] at e; cases e), fun y => (by rw [y, nk2] at e; cases e)⟩
        refine (J.hok b o e).stay (fun z w hzw qz => ?_) (fun z qz => by rw [upd_ne (ne z _ qz).1]; exact qz) fun z l qz => by rw [upd_ne (ne z _ qz).1]; exact qz
        have : z ≠ b0 ∧ z ≠ kS := by
          rcases hzw with y | y
          · rw [y]; exact ne b _ e
          · exact ne z _ y
        exact keep3 z w this.1 this.2 qz
    have J2 : Inv X pins σ (upd H2 b0 (.lst ys)) { t with heap := h3, gens := t.gens, drawn := t.drawn, toks := tk } := J.call (t' := tk) (d' := t.drawn) un hok J.bare fun b hb => by
      have hb : b = b0 ∨ b = kS := by simpa using hb
      rcases hb with y | y
      · rw [y]; exact ⟨fb.2.1, fb.1, fb.2.2.1, fb.2.2.2.1⟩
      · rw [y]; exact ⟨fk.2.1, fk.1, fk.2.2.1, fk.2.2.2.1⟩
    exact ⟨rfl, .ref b0, _, J2, rfl, q b0 ys F2 H2 g nb2 yl v2⟩
end DL

set_option Elab.async false
set_option linter.all false
set_option maxRecDepth 100000
set_option maxHeartbeats 1000000
/-! sorted(xs, key=f) at the data; list(d) of an own dict by tuples. -/
namespace DL
variable [Tabs]
open PySem L2
open Evl (Ex)
def oSortK (m : List D → R D) (f : Env → R D) : Env → R Ow := fun ρ => (f ρ).bind fun d => match d with
  | .lst l => if keysOk m l && sortable (l.map (keyD m)) then .ok (.lst (l.mergeSort (leKey m))) else .bad
  | _ => .bad
section
variable {X : Cx} {W : WX} {pos : Pos}
theorem do_sortK {e ek : Expr} {f : Env → R D} {p kp : Pos} {fa : Addr} {m : List D → R D} {j k : Nat} (h : FdA X.prog X.w X.K X.mg X.base j fa 1 m) (hr : Room k X.A) (hj : j + 1 ≤ k) (hu : X.A.units + 65 < cLine) (hg : Gl X "sorted") (hm : X.mg "sorted" = none) (ha : DE X W e f) (hk : DE X W ek (eC (.ref fa)))
    (na : starEach [e] X.env = (false, eval e X.env) :: starEach [] X.env := by rfl)
    (he : backTo pos (starEach [e] X.env) = (false, eval e X.env) :: backTo pos (starEach [] X.env) := by rfl) (hpl : (backTo pos (starEach [e] X.env)).any (·.1) = false := by rfl)
    (hall : (backToKw pos (keywordEach [⟨some "key", ek, kp⟩] X.env)).all (·.1.isSome) = true := by rfl) (hnone : (backToKw pos (keywordEach [⟨some "key", ek, kp⟩] X.env)).any (·.1.isNone) = false := by rfl) (hks : (backToKw pos (keywordEach [⟨some "key", ek, kp⟩] X.env)).filterMap (·.1) = [Str.ofString "key"] := by rfl) :
    DO X W (.Call (.Name "sorted" p) [e] [⟨some "key", ek, kp⟩] pos) (oSortK m f) := by
  refine pe_imp (pe_callBK (id := "sorted") (cr_sortedKeyF h hr hj hu) hg hm (by decide +kernel) (pa_cons ha pa_nil na) (pk_cons hk pk_nil) (by decide) (by decide) he hpl hall hnone hks) fun σ H Q ⟨F0, H0, F, ρ, S, q⟩ => ?_
  unfold oSortK at q
  show tD X.K W f σ H fun x H1 => tD X.K W (eC (.ref fa)) σ H1 fun z H2 => rSK X.K fa m [x] [z] H2 Q
  cases ef : f ρ with
  | bad => rw [ef] at q; exact q.elim
  | exc c => rw [ef] at q; exact tD_exc S ef q
  | ok d =>
    rw [ef, R.bind_ok] at q
    refine tD_ok S ef fun v F1 H1 g1 r1 => tD_ok (S.go g1) (d := .ref fa) rfl fun z F2 H2 g2 r2 => ?_
    cases d with
    | lst l =>
      have q : (match (if (keysOk m l && sortable (l.map (keyD m))) = true then R.ok (Ow.lst (l.mergeSort (leKey m))) else .bad) with
        | .ok o => ∀ p u F' H', H p = none → Grow F H F' H' → F' p = none → H' p = some u → OwRep X.K F' u o → Q (.ref p) H'
        | .exc c => ∀ F' H', Grow F H F' H' → W (.ref c) none σ H'
        | .bad => False) := q
      by_cases hc : (keysOk m l && sortable (l.map (keyD m))) = true
      · rw [if_pos hc] at q
        rw [Bool.and_eq_true] at hc
        cases r2
        cases r1 with
        | lst e1 k1 => exact ⟨F2, _, _, l, rfl, rfl, g2.sub, ((S.go g1).go g2).tab, SqL.of (g2.sub _ _ (g2.ef _ _ e1)), k1.ex g2.ef, hc.1, hc.2, fun b ys F3 H3 g3 nb yl ry => q b _ F3 _ (((g1.trans g2).trans g3).eh.fresh nb) (((g1.trans g2).trans g3).trans (Grow.addH g3.sub nb)) (fresh_sub g3.sub nb) upd_same ⟨_, rfl, ry⟩⟩
      · rw [if_neg hc] at q
        exact q.elim
    | _ => exact q.elim
end
section
variable {P : Program} {w : World} {K : PySem.W.Frag} {mg : Str → Option Value} {base : Heap} {X : Cx} {W : WX} {N : List Str} {sc : Scope} {k : Nat} {pos : Pos}
theorem xsortK (C : Ctx P w K mg base X W N sc k) {e : Expr} {f : Env → R D} {p kp kn : Pos} {x : Str} {fa : Addr} {m : List D → R D} {j : Nat} (h : Fd P w K mg base j x 1 m) (hx : mg x = some (.ref fa)) (hj : j + 1 ≤ k) (hm : mg "sorted" = none) (hg : glB sc "sorted" = true) (hgx : glB sc x = true) (ha : DE X W e f) (hd : (x == ("__debug__" : Str)) = false := by decide)
    (na : starEach [e] X.env = (false, eval e X.env) :: starEach [] X.env := by rfl)
    (he : backTo pos (starEach [e] X.env) = (false, eval e X.env) :: backTo pos (starEach [] X.env) := by rfl) (hpl : (backTo pos (starEach [e] X.env)).any (·.1) = false := by rfl)
    (hall : (backToKw pos (keywordEach [⟨some "key", .Name x kn, kp⟩] X.env)).all (·.1.isSome) = true := by rfl) (hnone : (backToKw pos (keywordEach [⟨some "key", .Name x kn, kp⟩] X.env)).any (·.1.isNone) = false := by rfl) (hks : (backToKw pos (keywordEach [⟨some "key", .Name x kn, kp⟩] X.env)).filterMap (·.1) = [Str.ofString "key"] := by rfl) :
    DO X W (.Call (.Name "sorted" p) [e] [⟨some "key", .Name x kn, kp⟩] pos) (oSortK m f) :=
  do_sortK ((C.fd h).at (C.mgs hx)) C.room hj C.hu (C.gl hg) (C.no hm) ha (xref C hx hgx hd) na he hpl hall hnone hks
end
@[simp] theorem ev_sortK {ρ : Env} (m : List D → R D) (f : Env → R D) : oSortK m f ρ = (f ρ).bind fun d => match d with
  | .lst l => if keysOk m l && sortable (l.map (keyD m)) then .ok (.lst (l.mergeSort (leKey m))) else .bad
  | _ => .bad := rfl
end DL

set_option Elab.async false
set_option linter.all false
set_option maxRecDepth 100000
set_option maxHeartbeats 3200000
/-! set(xs) of at most 64 tuples of ints; sorted of it. -/
namespace DL
variable [Tabs]
open PySem PySem.Spec PyProof.Rows L2
section
variable {P : Program} {w : World} {A : Around} {E : Value → Shared → Prop} {s : Shared}
abbrev Rw := List (Addr × List Int)
/-- a set of tuples, their number not bounded by itself -/
structure SetQ (P : Program) (w : World) (h : Heap) (a : Addr) (L : Rw) (es : Array (Int × Value)) (ep : Nat) (t : SetTable) : Prop where
  obj : ∃ u : Obj, h.get? a = some u ∧ u.ExactSet ∧ u.data = .set es ep t
  ro : es.toList = rowsOf P w L
  tb : TabOk t (L.map fun q => thash P w q.2)
  dif : (L.map (·.2)).Nodup
  tu : ∀ q ∈ L, IsT P w h q.2 q.1
  pla : t.plain = true
  ld : w.params.followText "set-order" = true ∨ t.led = true
  spare : L.length * 5 < t.mask * 3
theorem SetQ.of {h : Heap} {a : Addr} {L : Rw} {es : Array (Int × Value)} {ep : Nat} {t : SetTable} (r : SetTR P w h a L es ep t) : SetQ P w h a L es ep t := ⟨r.ob, r.rows, r.tab, r.nd, r.tup, r.plain, r.led, r.room⟩
theorem SetQ.few {h : Heap} {a : Addr} {L : Rw} {es : Array (Int × Value)} {ep : Nat} {t : SetTable} (r : SetQ P w h a L es ep t) (n : L.length < 64) : SetTR P w h a L es ep t := ⟨r.obj, r.ro, r.tb, r.dif, r.tu, r.pla, r.ld, r.spare, n⟩
/-- the last of 64: the table has 128 places -/
theorem put_last {a : Addr} {L : Rw} {es : Array (Int × Value)} {ep : Nat} {t : SetTable} (r : SetTR P w s.heap a L es ep t) (n63 : L.length = 63) {x : Addr} {k : List Int} (tx : IsT P w s.heap k x) (room : A.units < cLine) {Q : Bool → Shared → Prop}
    (fin : ∀ b g L2 es2 ep2 t2, Heap.SameBut a s.heap g → SetQ P w g a L2 es2 ep2 t2 → (k ∈ L.map (·.2) → L2 = L) → (k ∉ L.map (·.2) → L2.Perm ((x, k) :: L)) → Q b { s with heap := g }) : wpAny (model P w) A (setAddHashed a (.ref x) (thash P w k)) Q E s := by
  obtain ⟨u, hu, exu, du⟩ := r.ob
  have nes := r.size
  have sp := r.room
  have m127 : t.mask = 127 := by
    rcases r.tab.mok with e | e | e
    · rw [e, n63] at sp; omega
    · rw [e, n63] at sp; omega
    · exact e
  unfold setAddHashed
  refine wpAny_holding ?_
  rw [show (100000 : Nat) = 99999 + 1 from rfl]
  rw [setAddHashedIn_succ]
  refine wpAny_bind (wpAny_setState_of hu du r.fits ?_)
  dsimp only
  refine wp_if_neg (by simp [byScan, Value.scannable]) ?_
  try refine wpAny_bind (wpAny_pure ?_)
  refine wpAny_bind (search_at r tx room (fun inn => ?_) fun j out j1 j2 => ?_)
  · dsimp only
    exact wpAny_pure (fin false s.heap L es ep t (Heap.SameBut.refl a s.heap) (SetQ.of r) (fun _ => rfl) fun z => absurd inn z)
  · dsimp only
    refine wpAny_bind (wpAny_setState_of hu du r.fits ?_)
    dsimp only
    obtain ⟨c1, c2, c3, c4, c5, c6, c7, c8, c9⟩ := r.tab.put j1 j2
    have pl2 : (t.put (way t.mask (thash P w k) j)).1.plain = true := by rw [c6]; exact r.plain
    generalize ept : t.put (way t.mask (thash P w k) j) = pt at c1 c3 c4 c5 c6 c7 c8 c9 pl2 ⊢
    obtain ⟨t2, at2⟩ := pt
    dsimp only at c1 c3 c4 c5 c6 c7 c8 c9 pl2 ⊢
    subst c1
    first
      | (refine wpAny_bind ?_; refine wp_if_pos pl2 ?_; refine hashBy_tup tx ?_)
      | refine wp_if_pos pl2 (wpAny_bind (hashBy_tup tx ?_))
    simp only [if_true]
    have new : (SetTable.insertAt es (SetTable.below t.place (way t.mask (thash P w k) j)) (thash P w k, Value.ref x)).toList = rowsOf P w (L.take (SetTable.below t.place (way t.mask (thash P w k) j)) ++ (x, k) :: L.drop (SetTable.below t.place (way t.mask (thash P w k) j))) := by
      rw [SetTable.toList_insertAt, rows_put, r.rows]
    generalize epp : SetTable.below t.place (way t.mask (thash P w k) j) = pp at c2 c3 new ⊢
    have perm := put_perm L pp (x, k)
    have n64 : (L.take pp ++ (x, k) :: L.drop pp).length = 64 := by rw [perm.length_eq, List.length_cons, n63]
    have hmap : (L.take pp ++ (x, k) :: L.drop pp).map (fun q => thash P w q.2) = (L.map fun q => thash P w q.2).take pp ++ thash P w k :: (L.map fun q => thash P w q.2).drop pp := by
      rw [List.map_append, List.map_cons, List.map_take, List.map_drop]
    rw [← hmap] at c3
    have dif : ((L.take pp ++ (x, k) :: L.drop pp).map (·.2)).Nodup := by
      rw [(perm.map (·.2)).nodup_iff, List.map_cons, List.nodup_cons]
      exact ⟨out, r.nd⟩
    have n64e : (SetTable.insertAt es pp (thash P w k, Value.ref x)).size = 64 := by
      have z := congrArg List.length new
      unfold rowsOf at z
      rw [List.length_map, n64] at z
      rw [← Array.length_toList]
      exact z
    generalize SetTable.insertAt es pp (thash P w k, Value.ref x) = es2 at new n64e ⊢
    generalize L.take pp ++ (x, k) :: L.drop pp = L2 at perm n64 c3 dif new
    refine wpAny_bind (wpAny_storeSet_of hu du ?_ (by rw [n64e, sizeLine_eq]; omega))
    have same : Heap.SameBut a s.heap (s.heap.update a (Obj.putSet es2 t2)) := Heap.SameBut.update ..
    have stored := store_at (es' := es2) (t' := t2) hu du
    generalize s.heap.update a (Obj.putSet es2 t2) = g at same stored ⊢
    have tu2 : ∀ q ∈ L2, IsT P w g q.2 q.1 := fun q hq => by
      rcases List.mem_cons.mp (perm.mem_iff.mp hq) with e | hq
      · rw [e]; exact isT_same tx hu du same
      · exact isT_same (r.tup q hq) hu du same
    have full : ¬ t2.tooFull = true := fun z => by
      unfold SetTable.tooFull at z
      rw [decide_eq_true_eq, c9, List.length_map, c4, m127, n63] at z
      omega
    first
      | refine wp_if_neg (by simp [full]) ?_
      | (refine wpAny_bind ?_; refine wp_if_neg (by simp [full]) ?_; refine wpAny_pure ?_)
    exact wpAny_pure (fin true g L2 es2 (ep + 1) t2 same ⟨⟨_, stored, ⟨exu.1, exu.2.1, exu.2.2⟩, rfl⟩, new, c3, dif, tu2, pl2, by rw [c5]; exact r.led, by rw [n64, c4, m127]; decide⟩ (fun z => absurd z out) fun _ => perm)
theorem put_q {a : Addr} {L : Rw} {es : Array (Int × Value)} {ep : Nat} {t : SetTable} (r : SetQ P w s.heap a L es ep t) (n : L.length ≤ 63) {x : Addr} {k : List Int} (tx : IsT P w s.heap k x) (room : A.units < cLine) {Q : Bool → Shared → Prop}
    (fin : ∀ b g L2 es2 ep2 t2, Heap.SameBut a s.heap g → SetQ P w g a L2 es2 ep2 t2 → (k ∈ L.map (·.2) → L2 = L) → (k ∉ L.map (·.2) → L2.Perm ((x, k) :: L)) → Q b { s with heap := g }) : wpAny (model P w) A (setAddHashed a (.ref x) (thash P w k)) Q E s := by
  by_cases c : L.length = 63
  · exact put_last (r.few (by omega)) c tx room fin
  · exact add_at (r.few (by omega)) tx room (by omega) fun b g L2 es2 ep2 t2 h1 h2 => fin b g L2 es2 ep2 t2 h1 (SetQ.of h2)
theorem SetQ.stay {g g2 : Heap} {a : Addr} {L : Rw} {es : Array (Int × Value)} {ep : Nat} {t : SetTable} (r : SetQ P w g a L es ep t) (ka : ∀ u, g.get? a = some u → g2.get? a = some u) (kt : ∀ q ∈ L, IsT P w g2 q.2 q.1) : SetQ P w g2 a L es ep t := by
  obtain ⟨u, hu, rest⟩ := r.obj
  exact ⟨⟨u, ka u hu, rest⟩, r.ro, r.tb, r.dif, kt, r.pla, r.ld, r.spare⟩
/-- what the loop has at i items -/
def AtI (P : Program) (w : World) (ks : Rw) (S : Addr) (i : Nat) (h : Heap) : Prop := ∃ L es ep t, SetQ P w h S L es ep t ∧ Got ks i L
def Old (h0 h : Heap) : Prop := ∀ b o, h0.get? b = some o → h.get? b = some o
theorem loop_q {I S : Addr} {fp wr : List Addr} {G : Array GenState → Array GenState → Prop} {n : Nat} {Pv : Nat → Value → Prop} {St : Nat → Shared → Prop} {R : Result → Shared → Prop} {ks : Rw} {h0 : Heap}
    (W : WalksS P w A.in1 I fp wr G n Pv St) (nS : S ∉ fp) (en : n = ks.length) (n64 : ks.length ≤ 64) (val : ∀ i v, Pv i v → ∃ q, ks[i]? = some q ∧ v = .ref q.1)
    (tk : ∀ q ∈ ks, IsT P w h0 q.2 q.1) (noS : h0.get? S = none) (noW : ∀ b ∈ wr, h0.get? b = none) (room : A.in1.units < cLine) :
    ∀ (d i : Nat) (s : Shared), i + d = n → St i s → Old h0 s.heap → AtI P w ks S i s.heap → (∀ s2, Moved (S :: wr) G s s2 → AtI P w ks S n s2.heap → Old h0 s2.heap → R (.ok (.ret .none)) s2) →
      codeAny (model P w) A (.builtin "set.update.loop" ⟨[.ref S, .ref I], []⟩) R s := by
  have nSw : S ∉ wr := fun z => nS (W.sub _ z)
  have up : ∀ b ∈ wr, b ∈ S :: wr := fun b hb => List.mem_cons_of_mem _ hb
  have old2 : ∀ {s s2 : Shared}, Moved wr G s s2 → Old h0 s.heap → Old h0 s2.heap := fun mv o b u e => mv.heap b u (fun hb => by rw [noW b hb] at e; cases e) (o b u e)
  have moved2 : ∀ {s s2 : Shared} {i : Nat}, Moved wr G s s2 → Old h0 s.heap → ∀ {L es ep t}, SetQ P w s.heap S L es ep t → Got ks i L → SetQ P w s2.heap S L es ep t := by
    intro s s2 i mv o L es ep t q g
    exact q.stay (fun u e => mv.heap S u nSw e) fun z hz => isT_keep (tk z (List.mem_of_mem_take (g.sub z hz))) (old2 mv o)
  intro d
  induction d with
  | zero =>
    intro i s e st o ⟨L, es, ep, t, q, g⟩ fin
    have e : i = n := by omega
    subst e
    refine codeAny_builtin F.entry_set_update_loop ?_
    rw [Around.under_plainId F.plain_set_update_loop _]
    show wpAny _ A.in1 (pyNext (.ref I) >>= _) _ _ s
    refine wpAny_bind (W.done s _ _ st fun s2 mv => ?_)
    show wpAny _ A.in1 (ret Value.none) _ _ s2
    exact wpAny_pure (fin s2 (mv.mono up) ⟨L, es, ep, t, moved2 mv o q g, g⟩ (old2 mv o))
  | succ d ih =>
    intro i s e st o ⟨L, es, ep, t, q, g⟩ fin
    have lt : i < n := by omega
    refine codeAny_builtin F.entry_set_update_loop ?_
    rw [Around.under_plainId F.plain_set_update_loop _]
    show wpAny _ A.in1 (pyNext (.ref I) >>= _) _ _ s
    refine wpAny_bind (W.item i s _ _ lt st fun v s2 pv st2 mv => ?_)
    obtain ⟨z, hz, rfl⟩ := val i v pv
    have o2 := old2 mv o
    have q2 := moved2 mv o q g
    have tz : IsT P w s2.heap z.2 z.1 := isT_keep (tk z (List.mem_of_getElem? hz)) o2
    show wpAny _ A.in1 (holding [Value.ref z.1] (setAdd S (.ref z.1)) >>= _) _ _ s2
    refine wpAny_bind (wpAny_holding ?_)
    unfold setAdd
    refine wpAny_holding (wpAny_bind (wpAny_pyHash_tuple room tz ?_))
    refine put_q (s := { s2 with toks := s2.toks + (z.2.length + 1) }) q2 (by have := g.len; omega) tz room fun b g2 L2 es2 ep2 t2 same q3 c1 c2 => ?_
    have got : Got ks (i + 1) L2 := by
      by_cases c : z.2 ∈ L.map (·.2)
      · rw [c1 c]; exact g.same hz c
      · exact g.more hz (c2 c)
    have o3 : Old h0 g2 := fun b u e => (same.2 b (fun y => by rw [y, noS] at e; cases e)).trans (o2 b u e)
    refine wpAny_pure ⟨plainId_quiet F.plain_set_update_loop _, ih (i + 1) _ (by omega) (W.frame _ s2 _ _ st2 (Nat.le_add_right _ _) fun b hb u e => ?_) o3 ⟨L2, es2, ep2, t2, q3, got⟩ fun s3 mv3 at3 o4 => ?_⟩
    · rw [same.2 b (fun y : b = S => nS (by rw [← y]; exact hb))]; exact e
    · refine fin s3 (Moved.trans W.gtrans ((mv.mono up).then_heap (Nat.le_add_right _ _) fun b u hb e => ?_) mv3) at3 o4
      rw [same.2 b (fun y : b = S => hb (by rw [y]; exact List.mem_cons_self))]; exact e
/-- the new set -/
def newS (w : World) : Obj := { cls := .type "set", dict := none, data := .set #[] 0 (.fresh 0 0 (!w.params.followText "set-order")) }
theorem call_q {l : Addr} {its : Array Value} {ks : Rw} {Q : Value → Shared → Prop} (calm : A.handled = none) (li : s.heap.IsList l its) (eits : its.toList = ks.map fun q => Value.ref q.1) (tk : ∀ q ∈ ks, IsT P w s.heap q.2 q.1) (n64 : ks.length ≤ 64) (room : A.units + 3 < cLine)
    (fin : ∀ (g : Heap) (tk : Nat), AtI P w ks s.heap.objs.size ks.length g → Old s.heap g → Q (.ref s.heap.objs.size) { s with heap := g, toks := tk }) : wpAny (model P w) A (call (.type "set") [.ref l]) Q E s := by
  have en : its.size = ks.length := by
    rw [← Array.length_toList, eits, List.length_map]
  obtain ⟨c, tl, mro⟩ := F.called_set.mro
  have made := F.called_set.made
  have subs := F.called_set.sub
  refine wpAny_call (codeAny_of_tree ?_)
  show wpAny _ _ (callAny (.type "set") _) _ _ _
  refine wpAny_pure ⟨Code.quiet_builtin _ (by decide +kernel), codeAny_builtin F.entry_type_call ?_⟩
  rw [Around.under_plain (weight_type_call_type "set" [.ref l] []) rfl]
  have u1 := F.called_set.notType
  have u2 := F.called_set.canCreate
  have u3 := F.typeCall_set_1 (.ref l)
  repeat any_goals first | assumption | wp_step
  refine codeAny_mono (code_set_led1 (.ref l) (E := E) (Q₁ := fun v t => v = .ref s.heap.objs.size ∧ t = { s with heap := s.heap.push (newS w) }) ⟨rfl, rfl⟩) fun r t hr => ?_
  cases r with
  | error e => exact hr
  | ok fl =>
    cases fl with
    | ret v =>
      obtain ⟨rfl, rfl⟩ := hr
      have isS : (s.heap.push (newS w)).get? s.heap.objs.size = some (newS w) := Heap.get?_push_size _ rfl
      have tyS : Shared.TypeIs { s with heap := s.heap.push (newS w) } (.ref s.heap.objs.size) "set" := ⟨_, isS, rfl⟩
      have u4 := F.called_set.init.lookup
      have u5 := F.called_set.init.bind (.ref s.heap.objs.size)
      repeat any_goals first | assumption | wp_step
      refine codeAny_mono (codeAny_call_builtin (R := wants (fun v t => v = .none ∧ ∃ g tk, t = { s with heap := g, toks := tk } ∧ AtI P w ks s.heap.objs.size ks.length g ∧ Old s.heap g) E) F.called_set.init.plain F.entry_set_init (check_set_init_1 tyS ?_)) fun r t hr => ?_
      · obtain ⟨ol, gl, cl, nl, dl⟩ := li
        obtain ⟨ocls, odict, odata, oslots⟩ := ol
        simp only at cl dl
        subst cl; subst dl
        have gl2 : (s.heap.push (newS w)).get? l = some { cls := .type "list", dict := odict, data := .seq its nl, slots := oslots } := Heap.get?_push_of_some _ gl
        have v1 := F.sub_list_set
        have v2 := F.sub_list_frozenset
        have v3 : (Value.type "list" == Value.type "dict") = false := by decide
        have li2 : (s.heap.push (newS w)).IsList l its := ⟨_, gl2, rfl, nl, rfl⟩
        unfold Builtin.«set.__init__» noKeywords Builtin.Frozenset.updateFrom
        generalize ePI : pyIter = PI
        wp_walk
        subst ePI
        refine wpAny_pyIter_list li2 (wpAny_bind (wpAny_runValue ?_))
        have ll : l < s.heap.objs.size := Heap.lt_size gl
        have sz : (s.heap.push (newS w)).objs.size = s.heap.objs.size + 1 := Heap.size_push ..
        have val : ∀ (i : Nat) (v : Value), its[i]? = some v → ∃ q, ks[i]? = some q ∧ v = .ref q.1 := fun i v hv => by
          have z : its.toList[i]? = some v := by rw [Array.getElem?_toList]; exact hv
          rw [eits, List.getElem?_map] at z
          cases hq : ks[i]? with
          | none => rw [hq] at z; cases z
          | some q => rw [hq] at z; exact ⟨q, rfl, (Option.some.inj z).symm⟩
        have gone : ∀ b, s.heap.objs.size ≤ b → s.heap.get? b = none := fun b hb => by
          cases q : s.heap.get? b with
          | none => rfl
          | some o => exact absurd (Heap.lt_size q) (Nat.not_lt.mpr hb)
        refine loop_q (ks := ks) (h0 := s.heap) (S := s.heap.objs.size) ((Walks.list (A := A.in1.in1.in1) (by simp [calm]) _ l (by rw [sz]; exact Nat.ne_of_lt (Nat.lt_succ_of_lt ll)) its).toS) ?nS en n64 val tk (gone _ (Nat.le_refl _)) (fun b hb => gone b (by
            rw [List.mem_singleton.mp hb, sz]
            exact Nat.le_succ _)) room its.size 0 _ (Nat.zero_add _) ⟨⟨_, Heap.get?_push_size _ rfl, rfl, rfl⟩, li2.push _⟩ (fun b o e => Heap.get?_push_of_some _ (Heap.get?_push_of_some _ e)) ?start ?done
        case nS =>
          rw [sz]
          simp only [List.mem_cons, List.not_mem_nil, or_false, not_or]
          exact ⟨Nat.ne_of_lt (Nat.lt_succ_self _), Nat.ne_of_gt ll⟩
        case start => exact ⟨[], #[], 0, _, SetQ.of (setTR_fresh (Heap.get?_push_of_some _ isS)), Got.zero ks⟩
        case done =>
          intro t mv at3 o3
          obtain ⟨g, g2, d2, tk2, os2⟩ := t
          have eg : g2 = s.gens := mv.gens
          have ed : d2 = s.drawn := mv.drawn
          have eo : os2 = s.os := mv.os
          subst eg; subst ed; subst eo
          rw [en] at at3
          refine wpAny_pure ?_
          exact wpAny_pure ⟨rfl, g, tk2, rfl, at3, o3⟩
      · cases r with
        | error e => exact hr
        | ok fl2 =>
          cases fl2 with
          | ret v2 =>
            obtain ⟨rfl, g, tk2, rfl, at3, o3⟩ := hr
            repeat any_goals first | assumption | wp_step
            exact fin _ _ at3 o3
          | _ => exact hr.elim
    | _ => exact hr.elim
end
end DL

set_option Elab.async false
set_option linter.all false
set_option maxRecDepth 100000
set_option maxHeartbeats 3200000
/-! sorted(set(xs)) of at most 64 tuples of ints, of any lengths. -/
namespace DL
variable [Tabs]
open PySem PySem.Spec PyProof.Rows L2
open Evl (Ex)
/-! ### the order of tuples of ints -/
def lexJ : List Int → List Int → Bool
  | [], [] => false
  | [], _ :: _ => true
  | _ :: _, [] => false
  | x :: r, y :: t => decide (x < y) || (decide (x = y) && lexJ r t)
theorem toks_lexJ : ∀ a b : List Int, PyProof.Rows.lexLt PyProof.Rows.itemOrd (PySem.W.keyToksAll (a.map PyData.int)) (PySem.W.keyToksAll (b.map PyData.int)) = lexJ a b
  | [], [] => by simp [lexJ, PySem.W.keyToksAll, PyProof.Rows.lex_irrefl]
  | [], y :: t => by
    simp only [List.map_cons, List.map_nil, PySem.W.keyToksAll, lexJ]
    rw [PyProof.Rows.lex_cons]
    rfl
  | x :: r, [] => by
    simp only [List.map_cons, List.map_nil, PySem.W.keyToksAll, lexJ]
    rw [PyProof.Rows.lex_cons]
    rfl
  | x :: r, y :: t => by
    have ih := toks_lexJ r t
    simp only [List.map_cons, PySem.W.keyToksAll, PySem.W.keyToks, lexJ, List.cons_append, List.nil_append]
    rw [PyProof.Rows.lex_self, PyProof.Rows.lex_cons, ih]
    have e1 : PyProof.Rows.itemOrd.blt (Sum.inl x) (Sum.inl y) = decide (x < y) := rfl
    have e2 : PyProof.Rows.itemOrd.blt (Sum.inl y) (Sum.inl x) = decide (y < x) := rfl
    rw [e1, e2]
    by_cases h1 : x < y
    · simp [h1]
    · by_cases h2 : x = y
      · subst h2; simp
      · have h3 : y < x := by omega
        simp [h1, h2, h3]
theorem lt_tupI (a b : List Int) : PySem.W.dataLt (toP (tupI a)) (toP (tupI b)) = lexJ a b := by
  have e : ∀ l : List Int, toP (tupI l) = .tuple (l.map PyData.int) := fun l => by
    show PyData.tuple (toPs (l.map D.int)) = _
    rw [toPs_map, List.map_map]
    rfl
  rw [e a, e b, PySem.W.dataLt_tuple, toks_lexJ]
theorem leK_eq (a b : List Int) : leK a b = !lexJ b a := by rw [leK, leD, lt_tupI]
theorem lexJ_irr : ∀ a : List Int, lexJ a a = false
  | [] => rfl
  | x :: r => by simp [lexJ, lexJ_irr r]
theorem lexJ_tot : ∀ {a b : List Int}, lexJ a b = false → lexJ b a = false → a = b
  | [], [], _, _ => rfl
  | [], _ :: _, h, _ => by simp [lexJ] at h
  | _ :: _, [], _, h => by simp [lexJ] at h
  | x :: r, y :: t, h1, h2 => by
    simp only [lexJ, Bool.or_eq_false_iff, decide_eq_false_iff_not, Bool.and_eq_false_iff] at h1 h2
    have e : x = y := by omega
    subst e
    rw [lexJ_tot (h1.2.resolve_left fun z => z rfl) (h2.2.resolve_left fun z => z rfl)]
theorem lexJ_trans : ∀ {a b c : List Int}, lexJ a b = true → lexJ b c = true → lexJ a c = true
  | [], [], _, h, _ => by simp [lexJ] at h
  | [], _ :: _, [], _, h => by simp [lexJ] at h
  | [], _ :: _, _ :: _, _, _ => rfl
  | _ :: _, [], _, h, _ => by simp [lexJ] at h
  | _ :: _, _ :: _, [], _, h => by simp [lexJ] at h
  | x :: r, y :: t, z :: u, h1, h2 => by
    simp only [lexJ, Bool.or_eq_true, decide_eq_true_eq, Bool.and_eq_true] at h1 h2 ⊢
    rcases h1 with h1 | ⟨rfl, h1⟩
    · rcases h2 with h2 | ⟨rfl, h2⟩
      · exact .inl (by omega)
      · exact .inl h1
    · rcases h2 with h2 | ⟨rfl, h2⟩
      · exact .inl h2
      · exact .inr ⟨rfl, lexJ_trans h1 h2⟩
theorem lexJ_asym {a b : List Int} (h : lexJ a b = true) : lexJ b a = false := by
  cases q : lexJ b a with
  | false => rfl
  | true =>
    have := lexJ_trans h q
    rw [lexJ_irr] at this
    cases this
theorem leK_total (a b : List Int) : (leK a b || leK b a) = true := by
  rw [leK_eq, leK_eq]
  cases h : lexJ b a with
  | false => rfl
  | true => rw [lexJ_asym h]; rfl
theorem leK_trans (a b c : List Int) (h1 : leK a b = true) (h2 : leK b c = true) : leK a c = true := by
  rw [leK_eq, Bool.not_eq_true'] at h1 h2 ⊢
  cases h : lexJ c a with
  | false => rfl
  | true =>
    cases q : lexJ a b with
    | true =>
      have := lexJ_trans h q
      rw [h2] at this
      cases this
    | false =>
      have e := lexJ_tot q h1
      subst e
      rw [h] at h2
      cases h2
theorem sort_uniq {l m : List (List Int)} (h1 : l.Nodup) (h2 : m.Nodup) (h : ∀ x, x ∈ l ↔ x ∈ m) : l.mergeSort leK = m.mergeSort leK := by
  have p : l.Perm m := (List.perm_ext_iff_of_nodup h1 h2).mpr h
  refine List.Perm.eq_of_pairwise (le := fun a b => leK a b = true) (fun a b _ _ x y => ?_) (List.pairwise_mergeSort leK_trans leK_total l) (List.pairwise_mergeSort leK_trans leK_total m) (((List.mergeSort_perm l leK).trans p).trans (List.mergeSort_perm m leK).symm)
  rw [leK_eq, Bool.not_eq_true'] at x y
  exact lexJ_tot y x
/-- each once -/
def ddT : List (List Int) → List (List Int)
  | [] => []
  | k :: r => if k ∈ ddT r then ddT r else k :: ddT r
theorem mem_ddT {x : List Int} : ∀ {l : List (List Int)}, x ∈ ddT l ↔ x ∈ l
  | [] => Iff.rfl
  | k :: r => by
    unfold ddT
    split
    · rename_i h
      rw [mem_ddT, List.mem_cons]
      exact ⟨.inr, fun z => z.elim (fun e => by rw [e]; exact mem_ddT.mp h) id⟩
    · rw [List.mem_cons, List.mem_cons, mem_ddT]
theorem ddT_nodup : ∀ l : List (List Int), (ddT l).Nodup
  | [] => List.nodup_nil
  | k :: r => by
    unfold ddT
    split
    · exact ddT_nodup r
    · rename_i h
      exact List.nodup_cons.mpr ⟨h, ddT_nodup r⟩
def srtT (l : List (List Int)) : List (List Int) := (ddT l).mergeSort leK
/-! ### the set, tracked -/
structure SetX (P : Program) (w : World) (h : Heap) (a : Addr) (L : Rw) : Prop where
  ex : ∃ es ep t, (∃ u : Obj, h.get? a = some u ∧ u.ExactSet ∧ u.data = .set es ep t) ∧ es.toList = rowsOf P w L ∧ TabOk t (L.map fun q => thash P w q.2) ∧ (L.map (·.2)).Nodup ∧ t.plain = true ∧ (w.params.followText "set-order" = true ∨ t.led = true) ∧ L.length * 5 < t.mask * 3
def SetXO (P : Program) (w : World) (a : Addr) (L : Rw) : HO := .ext fun h => SetX P w h a L
theorem SetQ.x {P : Program} {w : World} {h : Heap} {a : Addr} {L : Rw} {es : Array (Int × Value)} {ep : Nat} {t : SetTable} (r : SetQ P w h a L es ep t) : SetX P w h a L := ⟨es, ep, t, r.obj, r.ro, r.tb, r.dif, r.pla, r.ld, r.spare⟩
theorem setXO_new {P : Program} {w : World} {H : Hp} {h : Heap} {a : Addr} {L : Rw} (r : SetX P w h a L) : ObjOk P w H h a (SetXO P w a L) := by
  have ⟨es, ep, t, ⟨u, hu, _⟩, _⟩ := r.ex
  refine ⟨r, ⟨u, hu⟩, fun g1 g2 q kp => ?_⟩
  have ⟨es2, ep2, t2, ⟨u2, hu2, r2⟩, q2⟩ := SetX.ex q
  exact ⟨es2, ep2, t2, ⟨u2, kp u2 hu2, r2⟩, q2⟩
section
variable {X : Cx}
def rSetX (K : PySem.W.Frag) (P : Program) (w : World) : List V → Hp → VK → Prop := fun xs H Q => ∃ (l : Addr) (ks : Rw), xs = [V.ref l] ∧ SqL K H l (ks.map fun q => V.ref q.1) ∧ (∀ q ∈ ks, SqT K H q.1 (q.2.map V.int)) ∧ ks.length ≤ 64 ∧
  ∀ a L, H a = none → (∀ q ∈ L, q ∈ ks) → (∀ q ∈ ks, q.2 ∈ L.map (·.2)) → (L.map (·.2)).Nodup → Q (.ref a) (upd H a (SetXO P w a L))
theorem cr_setX (hc : X.calm = true) (hu : X.A.units + 64 < cLine) : CallR X (.type "set") (rSetX X.K X.prog X.w) := by
  intro pins s σ H xs us Q I r h
  obtain ⟨l, ks, rfl, hl, tk, n64, q⟩ := h
  rw [Vals.ref1 r]
  obtain ⟨its, rv, pl, hz⟩ := I.list hl
  refine call_q (P := X.prog) (w := X.w) (ks := ks) (I.ok.hd hc) pl.isList (by simpa using refs_of_vals rv) (fun z hz => I.isT (tk z hz)) n64 (by omega) fun g tk2 at3 o3 => ?_
  obtain ⟨L, es, ep, t, sq, got⟩ := at3
  refine ⟨.ref s.heap.objs.size, upd H s.heap.objs.size (SetXO X.prog X.w s.heap.objs.size L), I.laid (t' := tk2) o3 (Nat.le_refl _) (setXO_new sq.x), rfl, q _ L (I.hok.fresh (Nat.le_refl _)) (fun z hz => List.mem_of_mem_take (got.sub z hz)) (fun z hz => got.all z (by rw [List.take_length]; exact hz)) sq.dif⟩
theorem perm_map {α β : Type} {f : α → β} : ∀ {vs ws : List β}, vs.Perm ws → ∀ L : List α, ws = L.map f → ∃ L2 : List α, L2.Perm L ∧ vs = L2.map f := by
  intro vs ws h
  induction h with
  | nil => intro L e; cases L <;> simp at e; exact ⟨[], List.Perm.refl _, rfl⟩
  | cons x _ ih =>
    intro L e
    cases L with
    | nil => simp at e
    | cons a L =>
      rw [List.map_cons] at e
      injection e with e1 e2
      obtain ⟨L2, p, e3⟩ := ih L e2
      exact ⟨a :: L2, p.cons a, by rw [List.map_cons, e1, e3]⟩
  | swap x y l =>
    intro L e
    cases L with
    | nil => simp at e
    | cons a L =>
      cases L with
      | nil => simp at e
      | cons b L =>
        rw [List.map_cons, List.map_cons] at e
        injection e with e1 e2
        injection e2 with e2 e3
        exact ⟨b :: a :: L, List.Perm.swap a b L, by rw [List.map_cons, List.map_cons, e1, e2, e3]⟩
  | trans _ _ ih1 ih2 =>
    intro L e
    obtain ⟨L2, p2, e2⟩ := ih2 L e
    obtain ⟨L3, p3, e3⟩ := ih1 L2 e2
    exact ⟨L3, p3.trans p2, e3⟩
def rSortedX (P : Program) (w : World) : List V → Hp → VK → Prop := fun vs H Q => ∃ (a : Addr) (L : Rw), vs = [V.ref a] ∧ H a = some (SetXO P w a L) ∧ (∀ q ∈ L, H q.1 = some (.tup (q.2.map V.int))) ∧
  ∀ p (bs : List Addr) (L2 : Rw), H p = none → L2.Perm L → PySem.W.EachIs (fun (b : Addr) k => H b = some (.tup (k.map V.int))) bs ((L2.map (·.2)).mergeSort leK) → Q (.ref p) (upd H p (.lst (bs.map V.ref)))
theorem cr_sortedX (hc : X.calm = true) (hu : X.A.units + 65 < cLine) : CallR X (.builtin "sorted") (rSortedX X.prog X.w) := by
  intro pins s σ H vs us Q I r h
  obtain ⟨a, L, rfl, ha, tk, q⟩ := h
  have sx : SetX X.prog X.w s.heap a L := (I.hok a _ ha).1
  obtain ⟨es, ep, t, ⟨u, gu, exu, du⟩, ro, tb, dif, pla, led, spare⟩ := sx.ex
  have nes : es.size = L.length := by
    have z := congrArg List.length ro
    unfold rowsOf at z
    rw [Array.length_toList, List.length_map] at z
    exact z
  have nm : t.mask ≤ 127 := by rcases tb.mok with e | e | e <;> omega
  have fits : t.fits es.size = true := by
    have z := tb.sz
    rw [List.length_map] at z
    unfold SetTable.fits SetTable.fill
    rw [tb.dm, Bool.and_eq_true, beq_iff_eq, decide_eq_true_eq, nes, z]
    refine ⟨rfl, ?_⟩
    show L.length + 0 ≤ t.mask
    omega
  rw [Vals.ref1 r]
  refine Calls.call_function_entry PyProof.Rows.kind_sorted PyProof.Rows.plain_sorted PyProof.Rows.entry_sorted (PyProof.Rows.args_sorted1 _) ?_
  unfold Builtin.«sorted»
  refine wpAny_bind (m := checkCount "sorted" 1 1 _) (wpAny_pure ?_)
  refine wpAny_bind (collect_set (A := X.A.in1) (I.ok.hd hc) ⟨u, gu, exu.1, du⟩ fits (by unfold scanBound; omega) tb.ris led fun s1 out old1 sz1 gs os pm => ?_)
  have eref : es.toList.map (·.2) = L.map fun z => Value.ref z.1 := by
    rw [ro]
    unfold rowsOf
    rw [List.map_map]
    rfl
  obtain ⟨L2, p2, rfl⟩ := perm_map pm L eref
  have tk2 : ∀ z ∈ L2, H z.1 = some (.tup (z.2.map V.int)) := fun z hz => tk z (p2.mem_iff.mp hz)
  have eachL : ∀ M : Rw, (∀ z ∈ M, H z.1 = some (.tup (z.2.map V.int))) → PySem.W.EachIs (fun v k => ∃ b, v = Value.ref b ∧ H b = some (.tup (k.map V.int))) (M.map fun z => Value.ref z.1) (M.map (·.2)) := by
    intro M
    induction M with
    | nil => intro _; exact .nil
    | cons z M ih => intro hM; exact .cons ⟨z.1, rfl, hM z (by simp)⟩ (ih fun y hy => hM y (by simp [hy]))
  have each := eachL L2 tk2
  have I1 : Inv X pins σ H s1 := I.call' (ch := []) os (Un.kept old1) (I.hok.kept old1) (by rw [gs]; exact I.bare) fun _ z => nomatch z
  have n2 : (L2.map fun z => Value.ref z.1).length ≤ sizeLine := by rw [List.length_map, p2.length_eq, sizeLine_eq]; omega
  refine wpAny_bind (wpAny_newList ?_ n2)
  have hoL : (s1.heap.push (seqObj "list" (L2.map fun z => Value.ref z.1).toArray 0)).get? s1.heap.objs.size = some (seqObj "list" (L2.map fun z => Value.ref z.1).toArray 0) := Heap.get?_push_size _ rfl
  generalize hvs : (L2.map fun z => Value.ref z.1) = us at each n2 hoL ⊢
  obtain ⟨ks, hks⟩ : ∃ ks, ks = L2.map (·.2) := ⟨_, rfl⟩
  rw [← hks] at each
  show wpAny _ _ _ _ _ { s1 with heap := s1.heap.push (seqObj "list" us.toArray 0) }
  let H2 : Heap := PySem.W.sortingHeap (s1.heap.push (seqObj "list" us.toArray 0)) s1.heap.objs.size us
  have old : ∀ b ob, s1.heap.get? b = some ob → H2.get? b = some ob := fun b ob e => PySem.W.sortingHeap_old (Nat.ne_of_lt (Heap.lt_size e)) (Heap.get?_push_of_some _ e)
  have rd : ∀ (v : Value) (k : List Int), (∃ b, v = Value.ref b ∧ H b = some (.tup (k.map V.int))) → ∃ as, PySem.Reads H2 v (toP (tupI k)) as := fun v k ⟨b, e, hb⟩ => by
    have dp : Dp X.K H (.ref b) (toP (tupI k)) := by
      show Dp X.K H (.ref b) (.tuple (toPs (k.map D.int)))
      rw [toPs_map, List.map_map]
      exact .tup (SqT.of hb) (dpAll_ints k)
    obtain ⟨as, hr⟩ := Dp.reads I1 _ (.ref b) v dp e
    exact ⟨as, Reads.keeps (fun c oc ec => old c oc ec) hr⟩
  have er : PySem.W.EachIs (fun v d => ∃ as, PySem.Reads H2 v d as) us (ks.map fun k => toP (tupI k)) := each_map (fun v k _ h => rd v k h) each
  have hall : PySem.W.AllAlike (ks.map fun k => toP (tupI k)) := fun d hd d' hd' => by
    obtain ⟨k, _, rfl⟩ := List.mem_map.mp hd
    obtain ⟨k', _, rfl⟩ := List.mem_map.mp hd'
    exact alikeK k k'
  have ht : ∀ d ∈ ks.map fun k => toP (tupI k), ∃ ys, d = .tuple ys := fun d hd => by
    obtain ⟨k, _, rfl⟩ := List.mem_map.mp hd
    exact ⟨_, rfl⟩
  have hdep : ∀ d ∈ ks.map fun k => toP (tupI k), X.A.in1.in1.units + d.depth < cLine := fun d hd => by
    obtain ⟨k, _, rfl⟩ := List.mem_map.mp hd
    have h2 := (dok_lay 7 (tupI k) (by
      show doks 6 (k.map D.int) = true
      rw [doks_all, List.all_map, List.all_eq_true]
      intro _ _
      rfl)).2
    have e1 : X.A.in1.in1.units = X.A.units + 2 := rfl
    omega
  have S : PySem.W.SortsAt X.prog X.w X.A.in1.in1 { s1 with heap := H2 } (PySem.W.dataKind H2 (ks.map fun k => toP (tupI k))) us := sorts_tuples (s := { s1 with heap := H2 }) er hall ht hdep
  refine wpAny_bind (wpAny_holding (wpAny_call_entry PyProof.Rows.slot_list_sort ⟨_, hoL, rfl⟩ PyProof.Rows.entry_list_sort
    (PySem.W.list_sort_vals (s := { s1 with heap := s1.heap.push (seqObj "list" us.toArray 0) }) hoL S n2 ⟨_, rfl, ?_⟩) (PyProof.Rows.args_list_sort _)))
  have out := PySem.W.sortVals_each (κ := PySem.W.dataKind H2 (ks.map fun k => toP (tupI k))) (rev := false) (fun k : List Int => PySem.W.keyToks (toP (tupI k))) each (each_same (fun v k hk h => by
    obtain ⟨as, hr⟩ := rd v k h
    exact PySem.W.dataKind_some hall (List.mem_map.mpr ⟨k, hk, rfl⟩) hr) each)
  obtain ⟨bs, e1, e2⟩ := each_refs out
  obtain ⟨e', he'⟩ := PyProof.Rows.sortedHeap_at (vs := us) (out := (PySem.W.sortVals (PySem.W.dataKind H2 (ks.map fun k => toP (tupI k))) false us us).toArray) hoL
  have hlen : (bs.map V.ref).length ≤ sizeLine := by
    have h1 := e2.length
    rw [List.length_mergeSort] at h1
    have h2 := each.length
    rw [List.length_map, h1, ← h2]
    exact n2
  have e2 : PySem.W.EachIs (fun (b : Addr) k => H b = some (.tup (k.map V.int))) bs ((L2.map (·.2)).mergeSort leK) := by rw [← hks]; exact e2
  refine wpAny_pure ⟨_, rfl, .ref s1.heap.objs.size, upd H s1.heap.objs.size (.lst (bs.map V.ref)), I1.laid (t' := s1.toks) (fun b w e => ?_) (Nat.le_refl _)
    (show ObjOk X.prog X.w _ _ _ (.lst (bs.map V.ref)) from ⟨hlen, _, e', by rw [e1]; exact vals_refs bs, he'⟩), rfl, q _ bs L2 (I1.hok.fresh (Nat.le_refl _)) p2 e2⟩
  have hb : b < s1.heap.objs.size := Heap.lt_size e
  rw [PyProof.Rows.sortedHeap_old (Nat.ne_of_lt hb) (by rw [size_push']; exact Nat.lt_succ_of_lt hb)]
  exact Heap.get?_push_of_some _ e
end
end DL

set_option Elab.async false
set_option linter.all false
set_option maxRecDepth 100000
set_option maxHeartbeats 1000000
/-! sorted(set(tuples)), list(own dict by tuples), at the data. -/
namespace DL
variable [Tabs]
open PySem L2
open Evl (Ex)
def asTups : List D → Option (List (List Int))
  | [] => some []
  | .tup a :: r => (asInts a).bind fun k => (asTups r).map (k :: ·)
  | _ => none
theorem asTups_eq : ∀ {l : List D} {ks : List (List Int)}, asTups l = some ks → l = ks.map tupI
  | [], ks, h => by cases h; rfl
  | d :: r, ks, h => by
    cases d with
    | tup a =>
      unfold asTups at h
      cases ea : asInts a with
      | none => rw [ea] at h; cases h
      | some k =>
        rw [ea, Option.bind_some] at h
        cases er : asTups r with
        | none => rw [er] at h; cases h
        | some m =>
          rw [er] at h
          cases h
          cases asInts_eq ea
          rw [List.map_cons, ← asTups_eq er]
          rfl
    | _ => unfold asTups at h; cases h
theorem asTups_map : ∀ ks : List (List Int), asTups (ks.map tupI) = some ks
  | [] => rfl
  | k :: r => by
    show (asInts (k.map D.int)).bind _ = _
    rw [asInts_map, Option.bind_some, asTups_map r]
    rfl
theorem reps_tups {K : PySem.W.Frag} {F : Hp} : ∀ {xs : List V} {ks : List (List Int)}, Reps K F xs (ks.map tupI) → ∃ L : Rw, xs = L.map (fun q => V.ref q.1) ∧ L.map (·.2) = ks ∧ ∀ q ∈ L, F q.1 = some (.tup (q.2.map V.int))
  | _, [], .nil => ⟨[], rfl, rfl, by simp⟩
  | _, k :: ks, .cons r t => by
    obtain ⟨L, e1, e2, e3⟩ := reps_tups t
    cases r with
    | @tup b xs _ e rr =>
      refine ⟨(b, k) :: L, by rw [e1]; rfl, by rw [List.map_cons, e2], fun q hq => ?_⟩
      rcases List.mem_cons.mp hq with z | z
      · subst z
        rw [← rr.of_ints]
        exact e
      · exact e3 q z
/-- tuples of H taken into F: it grows -/
theorem grow_addT {F H H1 : Hp} {bs : List Addr} {p : Addr} {o : HO} (s : Ex F H) (hp : H p = none) (tup : ∀ b ∈ bs, ∃ ys, H b = some (.tup ys)) : Grow F H (addT F H bs) (upd H p o) ∧ addT F H bs p = none := by
  have np : p ∉ bs := fun h => by
    obtain ⟨ys, hy⟩ := tup p h
    rw [hp] at hy
    cases hy
  have fp : addT F H bs p = none := by
    unfold addT
    rw [if_neg np]
    exact fresh_sub s hp
  refine ⟨⟨fun b u h => ?_, .of (Ex.new hp), fun b u h => ?_, fun b u h hn => ?_⟩, fp⟩
  · unfold addT
    split
    · exact s b u h
    · exact h
  · have nb : b ≠ p := fun z => by rw [z, fp] at h; cases h
    rw [upd_ne nb]
    unfold addT at h
    split at h
    · exact h
    · exact s b u h
  · unfold addT
    split
    · rename_i hb
      obtain ⟨ys, hy⟩ := tup b hb
      rw [hy] at h
      exact absurd (Option.some.inj h).symm (hn ys)
    · rfl
def oSrtSetT (f : Env → R D) : Env → R Ow := fun ρ => (f ρ).bind fun d => match d with
  | .lst l => (match asTups l with
    | some ks => if ks.length ≤ 64 then .ok (.lst ((srtT ks).map tupI)) else .bad
    | none => .bad)
  | _ => .bad
def oListO (i : Nat) : Env → R Ow := fun ρ => match ρ[i]? with
  | some (.own (.dT ks _)) => .ok (.lst (ks.map tupI))
  | _ => .bad
section
variable {X : Cx} {W : WX} {pos : Pos}
theorem do_srtSetT {a : Expr} {f : Env → R D} {p p2 q2 : Pos} (hc : X.calm = true) (hu : X.A.units + 65 < cLine) (hg : Gl X "sorted") (hm : X.mg "sorted" = none) (hg2 : Gl X "set") (hm2 : X.mg "set" = none) (ha : DE X W a f)
    (na : starEach [a] X.env = (false, eval a X.env) :: starEach [] X.env := by rfl) (nb : starEach [.Call (.Name "set" p2) [a] [] q2] X.env = (false, eval (.Call (.Name "set" p2) [a] [] q2) X.env) :: starEach [] X.env := by rfl) :
    DO X W (.Call (.Name "sorted" p) [.Call (.Name "set" p2) [a] [] q2] [] pos) (oSrtSetT f) := by
  have h1 : PE X (.Call (.Name "set" p2) [a] [] q2) (tCB (rSetX X.K X.prog X.w) (tCons (tD X.K W f) tNil)) := pe_callTy (cr_setX hc (by omega)) hg2 hm2 PyProof.Rows.boot_set (pa_cons ha pa_nil na) (he := na)
  refine pe_imp (pe_callB (id := "sorted") (cr_sortedX hc hu) hg hm (by decide +kernel) (pa_cons h1 pa_nil nb) (he := nb)) fun σ H Q ⟨F0, H0, F, ρ, S, q⟩ => ?_
  unfold oSrtSetT at q
  show tD X.K W f σ H fun x H1 => rSetX X.K X.prog X.w [x] H1 fun y H2 => rSortedX X.prog X.w [y] H2 Q
  cases ef : f ρ with
  | bad => rw [ef] at q; exact q.elim
  | exc c => rw [ef] at q; exact tD_exc S ef q
  | ok d =>
    rw [ef, R.bind_ok] at q
    refine tD_ok S ef fun v F1 H1 g1 r1 => ?_
    cases d with
    | lst l =>
      cases et : asTups l with
      | none => simp only [et] at q
      | some ks =>
        simp only [et] at q
        by_cases n64 : ks.length ≤ 64
        · rw [if_pos n64] at q
          cases asTups_eq et
          cases r1 with
          | lst e1 k1 =>
            obtain ⟨L, rfl, eL, tL⟩ := reps_tups k1
            refine ⟨_, L, rfl, SqL.of (g1.sub _ _ e1), fun z hz => SqT.of (g1.sub _ _ (tL z hz)), by rw [← List.length_map (f := fun z : Addr × List Int => z.2), eL]; exact n64, fun b M hb sub all nd => ?_⟩
            have nb : ∀ z ∈ M, z.1 ≠ b := fun z hz e => by
              have := g1.sub _ _ (tL z (sub z hz))
              rw [e, hb] at this
              cases this
            refine ⟨b, M, rfl, upd_same, fun z hz => by rw [upd_ne (nb z hz)]; exact g1.sub _ _ (tL z (sub z hz)), fun p bs M2 hp pm each => ?_⟩
            have g2 : Grow F1 H1 F1 (upd H1 b (SetXO X.prog X.w b M)) := Grow.addH g1.sub hb
            obtain ⟨g3, fp⟩ := grow_addT (H1 := H1) (o := .lst (bs.map V.ref)) (bs := bs) g2.sub hp fun c hc => by
              obtain ⟨k, hk⟩ := each_mem each c hc
              exact ⟨_, hk⟩
            have es : (M2.map (·.2)).mergeSort leK = srtT ks := sort_uniq ((pm.map (·.2)).nodup_iff.mpr nd) (ddT_nodup ks) fun x => by
              rw [mem_ddT, (pm.map (·.2)).mem_iff, ← eL]
              constructor
              · intro hx
                obtain ⟨z, hz, rfl⟩ := List.mem_map.mp hx
                exact List.mem_map.mpr ⟨z, sub z hz, rfl⟩
              · intro hx
                obtain ⟨z, hz, rfl⟩ := List.mem_map.mp hx
                exact all z hz
            rw [es] at each
            have G := (g1.trans g2).trans g3
            exact q p _ _ _ ((g1.trans g2).eh.fresh hp) G fp upd_same ⟨_, rfl, addT_reps each fun _ h => h⟩
        · rw [if_neg n64] at q
          exact q.elim
    | _ => exact q.elim
theorem paired_keys {H : Hp} : ∀ {kvs : List (List Key × V)} {bs : List Addr} {ks : List (List Int)}, Paired (fun (p : List Key × V) b => H b = some (.tup (p.1.map kV))) kvs bs → kvs.map (·.1) = ks.map (·.map Sum.inl) → PySem.W.EachIs (fun (b : Addr) k => H b = some (.tup (k.map V.int))) bs ks
  | _, _, [], .nil, _ => .nil
  | _, _, _ :: _, .nil, h => by simp at h
  | _, _, [], .cons _ _, h => by simp at h
  | _, _, k :: ks, .cons r t, h => by
    rw [List.map_cons, List.map_cons] at h
    injection h with h1 h2
    refine .cons ?_ (paired_keys t h2)
    rw [kV_ints, ← h1]
    exact r
theorem do_listO {i : Nat} {x : Str} {p p2 : Pos} (hc : X.calm = true) (hg : Gl X "list") (hm : X.mg "list" = none) (hx : PE X (.Name x p2) (tVar i))
    (na : starEach [.Name x p2] X.env = (false, eval (.Name x p2) X.env) :: starEach [] X.env := by rfl) : DO X W (.Call (.Name "list" p) [.Name x p2] [] pos) (oListO i) := by
  refine pe_imp (pe_callTy (call_list_dT hc) hg hm PyProof.Rows.boot_list (pa_cons hx pa_nil na) (he := na)) fun σ H Q ⟨F0, H0, F, ρ, S, q⟩ => ?_
  unfold oListO at q
  cases hi : ρ[i]? with
  | none => rw [hi] at q; exact q.elim
  | some sl =>
    rw [hi] at q
    cases sl with
    | own o =>
      obtain ⟨a, u, e1, e2, e3, e4, e5⟩ := id (S.own i o hi)
      cases o with
      | dT ks vs =>
        obtain ⟨kvs, rfl, hk, rv⟩ := e5
        refine ⟨.ref a, e1, a, kvs, rfl, .inl e4, fun b bs hb ik => ?_⟩
        have each := paired_keys ik hk
        obtain ⟨g3, fp⟩ := grow_addT (H1 := H) (o := .lst (bs.map V.ref)) (bs := bs) S.sub hb fun c hc => by
          obtain ⟨k, hk⟩ := each_mem each c hc
          exact ⟨_, hk⟩
        exact q b _ _ _ hb g3 fp upd_same ⟨_, rfl, addT_reps each fun _ h => h⟩
      | _ => exact q.elim
    | un => exact q.elim
    | val _ => exact q.elim
end
section
variable {P : Program} {w : World} {K : PySem.W.Frag} {mg : Str → Option Value} {base : Heap} {X : Cx} {W : WX} {N : List Str} {sc : Scope} {k : Nat} {pos : Pos}
theorem xsrtSetT (C : Ctx P w K mg base X W N sc k) {a : Expr} {f : Env → R D} {p p2 q2 : Pos} (hm : mg "sorted" = none) (hm2 : mg "set" = none) (hg : glB sc "sorted" = true) (hg2 : glB sc "set" = true) (ha : DE X W a f)
    (he : starEach [a] X.env = (false, eval a X.env) :: starEach [] X.env := by rfl) :
    DO X W (.Call (.Name "sorted" p) [.Call (.Name "set" p2) [a] [] q2] [] pos) (oSrtSetT f) := do_srtSetT C.calm C.hu (C.gl hg) (C.no hm) (C.gl hg2) (C.no hm2) ha (na := he)
theorem xlistO (C : Ctx P w K mg base X W N sc k) (i : Nat) {x : Str} {p q : Pos} (hm : mg "list" = none) (hg : glB sc "list" = true) (h : N[i]? = some x) (hv : visB sc x = true) (hd : (x == ("__debug__" : Str)) = false := by decide) (hcd : (x == ("__classdict__" : Str)) = false := by decide) :
    DO X W (.Call (.Name "list" p) [.Name x q] [] pos) (oListO i) := do_listO C.calm (C.gl hg) (C.no hm) (pe_var (C.at h) (C.vis hv) hd hcd)
end
@[simp] theorem ev_srtSetT {ρ : Env} (f : Env → R D) : oSrtSetT f ρ = (f ρ).bind fun d => match d with
  | .lst l => (match asTups l with
    | some ks => if ks.length ≤ 64 then .ok (.lst ((srtT ks).map tupI)) else .bad
    | none => .bad)
  | _ => .bad := rfl
@[simp] theorem ev_listO {ρ : Env} (i : Nat) : oListO i ρ = (match ρ[i]? with
  | some (.own (.dT ks _)) => .ok (.lst (ks.map tupI))
  | _ => .bad) := rfl
end DL

set_option Elab.async false
set_option linter.all false
set_option maxRecDepth 100000
set_option maxHeartbeats 1000000
/-! Texts of the top; xs * n as an own list. -/
namespace DL
variable [Tabs]
open PySem L2
open Evl (Ex)
def oMul (fa fb : Env → R D) : Env → R Ow := fun ρ => (fa ρ).bind fun a => (fb ρ).bind fun b => match a, b with
  | .lst l, .int k => if decide (0 ≤ k) && (decide (k ≤ 1000) && decide (l.length ≤ 50)) then .ok (.lst (List.replicate k.toNat l).flatten) else .bad
  | _, _ => .bad
section
variable {X : Cx} {W : WX} {pos : Pos}
theorem do_mul {a b : Expr} {fa fb : Env → R D} (ha : DE X W a fa) (hb : DE X W b fb) : DO X W (.BinOp a .Mult b pos) (oMul fa fb) := by
  refine pe_imp (pe_op op_rep ha hb) fun σ H Q hh => ?_
  obtain ⟨F0, H0, F, ρ, S, q⟩ := hh
  unfold oMul at q
  show tD X.K W fa σ H fun x H1 => tD X.K W fb σ H1 fun y H2 => rRep x y H2 Q
  cases ea : fa ρ with
  | bad => rw [ea] at q; exact q.elim
  | exc c => rw [ea] at q; exact tD_exc S ea q
  | ok da =>
    rw [ea, R.bind_ok] at q
    refine tD_ok S ea fun x F1 H1 g1 r1 => ?_
    cases eb : fb ρ with
    | bad => rw [eb] at q; exact q.elim
    | exc c => rw [eb] at q; exact tD_exc (S.go g1) eb fun F2 H2 g2 => q F2 H2 (g1.trans g2)
    | ok db =>
      rw [eb, R.bind_ok] at q
      refine tD_ok (S.go g1) eb fun y F2 H2 g2 r2 => ?_
      have r1 := r1.ex g2.ef
      cases r1 with
      | @lst a1 xs l e1 k1 =>
        cases r2 with
        | int k =>
          simp only at q
          by_cases hl : (decide (0 ≤ k) && (decide (k ≤ 1000) && decide (l.length ≤ 50))) = true
          · rw [if_pos hl] at q
            simp only [Bool.and_eq_true, decide_eq_true_eq] at hl
            obtain ⟨h1, h2, h3⟩ := hl
            refine ⟨_, _, _, rfl, rfl, g2.sub _ _ e1, by omega, by omega, ?_, fun p hp => ?_⟩
            · rw [k1.length]
              have : l.length * k.toNat ≤ 50 * 1000 := Nat.mul_le_mul h3 (by omega)
              exact Nat.le_trans this (sz (by decide))
            · have G := g1.trans g2
              exact q p _ F2 _ (G.eh.fresh hp) (G.trans (Grow.addH G.sub hp)) (fresh_sub G.sub hp) upd_same ⟨_, rfl, k1.rep _⟩
          · rw [if_neg hl] at q
            exact q.elim
        | _ => exact q.elim
      | _ => exact q.elim
end
section
variable {P : Program} {w : World} {K : PySem.W.Frag} {mg : Str → Option Value} {base : Heap} {X : Cx} {W : WX} {N : List Str} {sc : Scope} {k : Nat} {pos : Pos}
theorem xstr (C : Ctx P w K mg base X W N sc k) {x z : Str} (h : ∃ t, mg x = some (.str z t)) (hg : glB sc x = true) (hd : (x == ("__debug__" : Str)) = false := by decide) : DE X W (.Name x pos) (eC (.str z)) := by
  obtain ⟨t, hm⟩ := h
  exact de_glob (v := .str z) (C.gl hg) (C.mgs hm) ⟨t, rfl⟩ (fun _ => .str z) hd
theorem xomul (C : Ctx P w K mg base X W N sc k) {a b : Expr} {fa fb : DL.Env → R D} (ha : DE X W a fa) (hb : DE X W b fb) : DO X W (.BinOp a .Mult b pos) (oMul fa fb) := do_mul ha hb
end
@[simp] theorem ev_oMul {ρ : Env} (fa fb : Env → R D) : oMul fa fb ρ = (fa ρ).bind fun a => (fb ρ).bind fun b => match a, b with
  | .lst l, .int k => if decide (0 ≤ k) && (decide (k ≤ 1000) && decide (l.length ≤ 50)) then .ok (.lst (List.replicate k.toNat l).flatten) else .bad
  | _, _ => .bad := rfl
end DL

set_option Elab.async false
set_option linter.all false
set_option maxRecDepth 100000
set_option maxHeartbeats 1000000
/-! xs[i] = v of an own list; t[::-1] of a tuple. -/
namespace DL
variable [Tabs]
open PySem L2
open Evl (Ex)
theorem reps_set {K : PySem.W.Frag} {F : Hp} {v : V} {d : D} : ∀ {xs : List V} {ds : List D} (m : Nat), Reps K F xs ds → Rep K F v d → Reps K F (xs.set m v) (ds.set m d)
  | _, _, _, .nil, _ => .nil
  | _, _, 0, .cons _ t, r => .cons r t
  | _, _, m + 1, .cons a t, r => .cons a (reps_set m t r)
def sSto (i : Nat) (fk fv : Env → R D) : SD := sE fv fun v ρ => match ρ[i]? with
  | some (.own (.lst ds)) => sE fk (fun k ρ => match k with
    | .int j => (match ixN ds.length j with
      | some m => some (.nx (ρ.set i (.own (.lst (ds.set m v)))))
      | none => none)
    | _ => none) ρ
  | _ => none
section
variable {X : Cx} {W : WX} {pos : Pos}
/-- o[i] = v, by what a container does with it -/
theorem ps_stoR {o i value : Expr} {to ti tv : TE} {t : TSet} {pos' : Pos} (ho : PE X o to) (hi : PE X i ti) (hv : PE X value tv) (ht : PSet X t) (hs : swapsWith value (some (.Subscript o i pos')) pos.line X.env = pure false) :
    PS X (.Assign [.Subscript o i pos'] value pos) (fun E σ H => tv σ H fun v H1 => to σ H1 fun x H2 => ti σ H2 fun y H3 => t x y v H3 fun H4 => E.nx σ H4) := by
  refine ⟨fun pins s σ H E I h => ?_⟩
  refine wpAny_Assign_Subscript (thn (hv.run pins s σ H _ I h) fun r s1 ⟨v, H1, I1, rv, q1⟩ => thn (ho.run pins s1 σ H1 _ I1 q1) fun u s2 ⟨x, H2, I2, rx, q2⟩ => thn (hi.run pins s2 σ H2 _ I2 q2) fun iv s3 ⟨y, H3, I3, ry, q3⟩ => ?_) hs
  exact thn (ht pins s3 σ H3 x y v u iv r _ I3 rx ry rv q3) fun _ s4 ⟨H4, I4, q4⟩ => ⟨σ, H4, I4, q4⟩
theorem ds_sto {i : Nat} {x : Str} {p pos' : Pos} {b value : Expr} {fk fv : Env → R D} (hx : PE X (.Name x p) (tVar i)) (hb : DE X W b fk) (hv : DE X W value fv)
    (hs : swapsWith value (some (.Subscript (.Name x p) b pos')) pos.line X.env = pure false := by rfl) :
    DS X W (.Assign [.Subscript (.Name x p) b pos'] value pos) (sSto i fk fv) := by
  refine ps_imp (ps_stoR hx hb hv set_list hs) fun E σ H hh => ?_
  refine sE_of hh fun F0 H0 F ρ d v F1 H1 S g1 rv q => ?_
  cases hi : ρ[i]? with
  | none => rw [hi] at q; exact q.elim
  | some sl =>
    rw [hi] at q
    cases sl with
    | own o =>
      cases o with
      | lst ds =>
        have S1 := S.go g1
        obtain ⟨a, u, e1, e2, e3, e4, e5⟩ := id (S1.own i _ hi)
        obtain ⟨xs, rfl, rx⟩ := e5
        refine ⟨.ref a, e1, ?_⟩
        show tD X.K W fk σ H1 fun y H3 => rSetL (.ref a) y v H3 fun H4 => E.nx σ H4
        simp only [sE] at q
        cases ek : fk ρ with
        | bad => simp only [ek] at q; exact q.elim
        | exc c => simp only [ek] at q; exact tD_exc S1 ek fun F2 H2 g2 => q σ F2 H2 g2.ef (S1.go g2)
        | ok k =>
          simp only [ek] at q
          refine tD_ok S1 ek fun y F2 H2 g2 rk => ?_
          cases k with
          | int j =>
            cases rk
            cases ej : ixN ds.length j with
            | none => simp only [ej] at q; exact q.elim
            | some m =>
              simp only [ej] at q
              exact ⟨a, xs, j, m, rfl, rfl, g2.eh.at e4, by rw [rx.length]; exact ej, q σ F2 _ g2.ef ((S1.go g2).mutate hi e1 ⟨_, rfl, reps_set m (rx.ex g2.ef) (rv.ex g2.ef)⟩)⟩
          | _ => exact q.elim
      | _ => exact q.elim
    | un => exact q.elim
    | val _ => exact q.elim
end
section
variable {P : Program} {w : World} {K : PySem.W.Frag} {mg : Str → Option Value} {base : Heap} {X : Cx} {W : WX} {N : List Str} {sc : Scope} {k : Nat} {pos : Pos}
theorem ysto (C : Ctx P w K mg base X W N sc k) (i : Nat) {x : Str} {q pos' : Pos} {b value : Expr} {fk fv : DL.Env → R D} (h : N[i]? = some x) (hv : visB sc x = true) (hb : DE X W b fk) (hval : DE X W value fv) (hd : (x == ("__debug__" : Str)) = false := by decide) (hcd : (x == ("__classdict__" : Str)) = false := by decide)
    (hs : swapsWith value (some (.Subscript (.Name x q) b pos')) pos.line X.env = pure false := by rfl) : DS X W (.Assign [.Subscript (.Name x q) b pos'] value pos) (sSto i fk fv) :=
  ds_sto (pe_var (C.at h) (C.vis hv) hd hcd) hb hval hs
end
theorem sto_ev {i : Nat} {fk fv : Env → R D} {ρ : Env} {ds : List D} {v : D} {j : Int} {m : Nat} (h1 : fv ρ = .ok v) (h2 : ρ[i]? = some (.own (.lst ds))) (h3 : fk ρ = .ok (.int j)) (h4 : ixN ds.length j = some m) : sSto i fk fv ρ = some (.nx (ρ.set i (.own (.lst (ds.set m v))))) := by
  unfold sSto sE
  simp only [h1, h2, h3, h4]
end DL

set_option Elab.async false
set_option linter.all false
set_option maxRecDepth 100000
set_option maxHeartbeats 2000000
/-! A dict whose keys are pairs of tuples of ints, each with True: new, stored, sorted. -/
namespace DL
variable [Tabs]
open PySem PySem.Spec PyProof.Rows L2
open Evl (Ex)
/-! ### the keys -/
def nkL (l : List Int) : NestedKey := .tup (l.map NestedKey.num)
def nkP (k : PK2) : NestedKey := .tup [nkL k.1, nkL k.2]
theorem hashes_num (w : World) : ∀ l : List Int, NestedKey.hashes w (l.map NestedKey.num) = l.map hashInt
  | [] => by simp [NestedKey.hashes]
  | x :: r => by
    rw [List.map_cons, List.map_cons, NestedKey.hashes, hashes_num w r]
    simp [NestedKey.hash]
theorem hash_nkL (w : World) (l : List Int) : (nkL l).hash w = hL l := by
  unfold nkL hL
  rw [NestedKey.hash, hashes_num]
theorem hash_nkP (w : World) (k : PK2) : (nkP k).hash w = hP k := by
  unfold nkP hP
  rw [NestedKey.hash, NestedKey.hashes, NestedKey.hashes, NestedKey.hashes, hash_nkL, hash_nkL]
theorem num_inj : ∀ {a b : List Int}, a.map NestedKey.num = b.map NestedKey.num → a = b
  | [], [], _ => rfl
  | [], _ :: _, h => by simp at h
  | _ :: _, [], h => by simp at h
  | x :: r, y :: t, h => by
    rw [List.map_cons, List.map_cons] at h
    injection h with h1 h2
    injection h1 with h1
    rw [h1, num_inj h2]
theorem nkP_inj {k k' : PK2} (h : nkP k = nkP k') : k = k' := by
  unfold nkP nkL at h
  injection h with h
  injection h with h1 h
  injection h with h2 _
  injection h1 with h1
  injection h2 with h2
  exact Prod.ext (num_inj h1) (num_inj h2)
theorem depth_num : ∀ l : List Int, NestedKey.depthAll (l.map NestedKey.num) = 0
  | [] => by simp [NestedKey.depthAll]
  | x :: r => by
    rw [List.map_cons, NestedKey.depthAll, depth_num r]
    simp [NestedKey.depth]
theorem depth_nkP (k : PK2) : (nkP k).depth ≤ 8 := by
  unfold nkP nkL
  simp [NestedKey.depth, NestedKey.depthAll, depth_num]
/-- a pair of tuples, tracked -/
def NT (H : Hp) (k : PK2) (b : Addr) : Prop := ∃ b1 b2, H b = some (.tup [.ref b1, .ref b2]) ∧ H b1 = some (.tup (k.1.map V.int)) ∧ H b2 = some (.tup (k.2.map V.int))
theorem NT.ex {H H' : Hp} {k : PK2} {b : Addr} (e : ∀ c xs, H c = some (.tup xs) → H' c = some (.tup xs)) (n : NT H k b) : NT H' k b := by
  obtain ⟨b1, b2, h1, h2, h3⟩ := n
  exact ⟨b1, b2, e _ _ h1, e _ _ h2, e _ _ h3⟩
theorem nt_of {K : PySem.W.Frag} {F : Hp} {v : V} {k : PK2} (r : Rep K F v (prD k)) : ∃ b, v = .ref b ∧ NT F k b := by
  unfold prD at r
  cases r with
  | @tup b xs _ e rr =>
    cases rr with
    | cons r1 rr =>
      cases rr with
      | cons r2 rr =>
        cases rr
        cases r1 with
        | @tup b1 _ _ e1 k1 =>
          cases r2 with
          | @tup b2 _ _ e2 k2 => exact ⟨b, rfl, b1, b2, e, by rw [← k1.of_ints]; exact e1, by rw [← k2.of_ints]; exact e2⟩
theorem nested_ints {h : Heap} : ∀ {ns : List Int} {us : List Value}, Vals (ns.map V.int) us → NestedAll h (ns.map NestedKey.num) us
  | [], _, .nil => .nil
  | n :: r, _, .cons ⟨t, e⟩ tl => by
    rw [e, List.map_cons]
    exact .cons (.int _ _) (nested_ints tl)
section
variable {P : Program} {w : World} {H : Hp} {h : Heap}
theorem nested_L (ok : HOk P w H h) {l : List Int} {b : Addr} (e : H b = some (.tup (l.map V.int))) : NestedIs h (nkL l) (.ref b) := by
  obtain ⟨_, its, r, o, h1, h2, n, h3⟩ := (show ObjOk P w H h b (.tup (l.map V.int)) from ok b _ e)
  exact .tup h1 h2 h3 (by simpa using nested_ints r)
theorem nested_P (ok : HOk P w H h) {k : PK2} {b : Addr} (n : NT H k b) : (nestedKind P w).is h (nkP k) b := by
  obtain ⟨b1, b2, e, e1, e2⟩ := n
  obtain ⟨_, its, r, o, h1, h2, m, h3⟩ := (show ObjOk P w H h b (.tup [.ref b1, .ref b2]) from ok b _ e)
  refine ⟨.tup h1 h2 h3 ?_, depth_nkP k⟩
  cases r with
  | cons r1 r =>
    cases r with
    | cons r2 r =>
      cases r
      rw [show _ = Value.ref b1 from r1, show _ = Value.ref b2 from r2]
      simpa using NestedAll.cons (nested_L ok e1) (.cons (nested_L ok e2) .nil)
end
/-! ### the dict -/
def nX (L : List (PK2 × Addr)) : List (NestedKey × Addr × Value) := L.map fun q => (nkP q.1, q.2, .bool true)
theorem ndict_of {P : Program} {w : World} {h : Heap} {a : Addr} {L : List (PK2 × Addr)} (d : NDict h a L) (t : ∀ q ∈ L, (nestedKind P w).is h (nkP q.1) q.2) : h.DictOfH (nestedKind P w) a (nX L) := by
  obtain ⟨u, es, ep, h1, h2, h3, h4, h5⟩ := d.ex
  refine ⟨u, es, ep, h1, h2, h3, ?_, fun x hx => ?_, ?_⟩
  · rw [h4, nX, List.map_map]
    refine List.map_congr_left fun q _ => ?_
    show _ = (⟨(nkP q.1).hash w, .ref q.2, .bool true⟩ : DictEntry)
    rw [hash_nkP]
  · obtain ⟨q, hq, rfl⟩ := List.mem_map.mp hx
    exact t q hq
  · rw [nX, List.map_map]
    have e : (fun x : NestedKey × Addr × Value => x.1) ∘ (fun q : PK2 × Addr => (nkP q.1, q.2, Value.bool true)) = nkP ∘ fun q => q.1 := rfl
    rw [e, ← List.map_map]
    exact List.Pairwise.map _ (fun x y n z => n (nkP_inj z)) h5
def addN (L : List (PK2 × Addr)) (k : PK2) (b : Addr) : List (PK2 × Addr) := if k ∈ L.map (·.1) then L else L ++ [(k, b)]
theorem addN_len (L : List (PK2 × Addr)) (k : PK2) (b : Addr) : (addN L k b).length ≤ L.length + 1 := by
  unfold addN
  split <;> simp
theorem stored_nX (L : List (PK2 × Addr)) (k : PK2) (b : Addr) : storedH (nX L) (nkP k) b (.bool true) = nX (addN L k b) := by
  have at' : (atKey (nX L) (nkP k)).isSome = true ↔ k ∈ L.map (·.1) := by
    unfold atKey
    rw [Option.isSome_map, List.find?_isSome]
    constructor
    · rintro ⟨x, hx, e⟩
      obtain ⟨q, hq, rfl⟩ := List.mem_map.mp hx
      have := nkP_inj (of_decide_eq_true e)
      exact List.mem_map.mpr ⟨q, hq, this⟩
    · intro hk
      obtain ⟨q, hq, e⟩ := List.mem_map.mp hk
      exact ⟨_, List.mem_map.mpr ⟨q, hq, rfl⟩, by rw [← e]; simp⟩
  unfold storedH addN
  by_cases c : k ∈ L.map (·.1)
  · rw [if_pos (at'.mpr c), if_pos c]
    have : ∀ x ∈ nX L, putAt (nkP k) (.bool true) x = x := fun x hx => by
      obtain ⟨q, hq, rfl⟩ := List.mem_map.mp hx
      unfold putAt
      split <;> rfl
    rw [List.map_congr_left this, List.map_id']
  · rw [if_neg (fun z => c (at'.mp z)), if_neg c]
    simp [nX]
theorem ndict_from {P : Program} {w : World} {h : Heap} {a : Addr} {L : List (PK2 × Addr)} (sys : (a == sysModules) = false) (few : L.length ≤ 100000) (d : h.DictOfH (nestedKind P w) a (nX L)) : NDict h a L := by
  obtain ⟨u, es, ep, h1, h2, h3, h4, _, h5⟩ := d
  refine ⟨sys, few, u, es, ep, h1, h2, h3, ?_, ?_⟩
  · rw [h4, nX, List.map_map]
    refine List.map_congr_left fun q _ => ?_
    show (⟨(nkP q.1).hash w, .ref q.2, .bool true⟩ : DictEntry) = _
    rw [hash_nkP]
  · rw [nX, List.map_map] at h5
    have e : (fun x : NestedKey × Addr × Value => x.1) ∘ (fun q : PK2 × Addr => (nkP q.1, q.2, Value.bool true)) = nkP ∘ fun q => q.1 := rfl
    rw [e, ← List.map_map] at h5
    exact List.Pairwise.of_map nkP (fun x y n z => n (by rw [z])) h5
theorem ndo_ok {P : Program} {w : World} {H : Hp} {h : Heap} {a : Addr} {L : List (PK2 × Addr)} (d : NDict h a L) : ObjOk P w H h a (NDO a L) := by
  have ⟨u, es, ep, h1, r⟩ := d.ex
  refine ⟨d, ⟨u, h1⟩, fun g1 g2 q kp => ?_⟩
  have q : NDict g1 a L := q
  have ⟨u2, es2, ep2, h2, r2⟩ := q.ex
  exact ⟨q.sys, q.few, u2, es2, ep2, kp u2 h2, r2⟩
/-- the address in it is its own -/
theorem ndo_at {P : Program} {w : World} {H : Hp} {h : Heap} {a b : Addr} {L : List (PK2 × Addr)} (ok : ObjOk P w H h a (NDO b L)) : b = a := by
  obtain ⟨d, ⟨u, hu⟩, keep⟩ := ok
  by_cases e : b = a
  · exact e
  · exfalso
    obtain ⟨G, G1, G2⟩ := restrict h fun c => !decide (c = b)
    have : NDict G b L := keep h G d fun v hv => by
      rw [G1 a (by simp [Ne.symm e])]
      exact hv
    obtain ⟨u2, _, _, h2, _⟩ := this.ex
    rw [G2 b (by simp)] at h2
    cases h2
section
variable {X : Cx} {pos : Pos}
def tNewN : TE := fun _ H Q => ∀ p, H p = none → Q (.ref p) (upd H p (NDO p []))
theorem pe_newN : PE X (.Dict [] [] pos) tNewN := ⟨fun pins s σ H Q I h => by
  obtain ⟨_, sys, _⟩ := (show ObjOk X.prog X.w H _ s.heap.objs.size (.dT []) from dt_empty s.heap I.big)
  refine wpAny_Dict_empty ⟨.ref s.heap.objs.size, _, I.laid (a := s.heap.objs.size) (o := NDO s.heap.objs.size []) (t' := s.toks) (fun _ _ q => Heap.get?_push_of_some _ q) (Nat.le_refl _) (ndo_ok (ndict_from (P := X.prog) (w := X.w) sys (Nat.zero_le _) (Heap.DictOfH.new _))), rfl, h _ (I.hok.fresh (Nat.le_refl _))⟩⟩
def rSetN : TSet := fun o i v H Q => ∃ a k b L, o = .ref a ∧ i = .ref b ∧ v = .bl true ∧ H a = some (NDO a L) ∧ NT H k b ∧ (∀ q ∈ L, NT H q.1 q.2) ∧ L.length < 100000 ∧ Q (upd H a (NDO a (addN L k b)))
theorem set_N (hu : X.A.units + 65 < cLine) : PSet X rSetN := by
  intro pins s σ H o i v ov iv u Q I ro ri rv h
  obtain ⟨a, k, b, L, rfl, rfl, rfl, ha, nk, nL, few, q⟩ := h
  cases ro
  cases ri
  obtain rfl : u = Value.bool true := rv
  have d : NDict s.heap a L := (I.hok a _ ha).1
  have dd := ndict_of (P := X.prog) (w := X.w) d fun z hz => nested_P I.hok (nL z hz)
  have n1 : (nX L).length ≤ sizeLine := by rw [nX, List.length_map]; exact szlt (by omega) |> Nat.le_of_lt
  refine wpAny_setItem_heap (knd := nestedKind X.prog X.w) (hsz := n1) (show X.A.units + 1 + 8 < cLine by omega) (nested_P I.hok nk) dd fun h' dd' hs => ?_
  rw [stored_nX] at dd'
  have nd := ndict_from d.sys (by have := addN_len L k b; omega) dd'
  obtain ⟨u2, _, _, hu2, _⟩ := nd.ex
  refine ⟨_, I.write (o := NDO a (addN L k b)) (t' := s.toks + (nestedKind X.prog X.w).draws (nkP k)) (by rw [ha]; trivial) (.inl rfl) (fun c w n e => (hs.2 c n).trans e) ⟨u2, hu2⟩ (ndo_ok nd), q⟩
end
end DL

set_option Elab.async false
set_option linter.all false
set_option maxRecDepth 100000
set_option maxHeartbeats 2000000
/-! sorted of such a dict; the rules at the data. -/
namespace DL
variable [Tabs]
open PySem PyProof.Rows L2
open Evl (Ex)
def leP (k k' : PK2) : Bool := leD (prD k) (prD k')
theorem toP_tupI (l : List Int) : toP (.tup (l.map D.int)) = .tuple (l.map PyData.int) := by
  show PyData.tuple (toPs (l.map D.int)) = _
  rw [toPs_map, List.map_map]
  rfl
theorem toP_prD (k : PK2) : toP (prD k) = .tuple [.tuple (k.1.map PyData.int), .tuple (k.2.map PyData.int)] := by
  show PyData.tuple [toP (.tup (k.1.map D.int)), toP (.tup (k.2.map D.int))] = _
  rw [toP_tupI, toP_tupI]
theorem alikeP (a b : PK2) : PySem.W.alike (toP (prD a)) (toP (prD b)) = true := by
  have h1 := alikeK a.1 b.1
  have h2 := alikeK a.2 b.2
  show (PySem.W.alike (toP (tupI a.1)) (toP (tupI b.1)) && (PySem.W.alike (toP (tupI a.2)) (toP (tupI b.2)) && true)) = true
  rw [h1, h2]
  rfl
theorem dok_prD (k : PK2) : dok 7 (prD k) = true := by
  have h : ∀ l : List Int, doks 5 (l.map D.int) = true := fun l => by
    rw [doks_all, List.all_map, List.all_eq_true]
    intro _ _
    rfl
  show (dok 6 (.tup (k.1.map D.int)) && (dok 6 (.tup (k.2.map D.int)) && true)) = true
  rw [show dok 6 (.tup (k.1.map D.int)) = doks 5 (k.1.map D.int) from rfl, show dok 6 (.tup (k.2.map D.int)) = doks 5 (k.2.map D.int) from rfl, h, h]
  rfl
theorem dp_NT {K : PySem.W.Frag} {H : Hp} {k : PK2} {b : Addr} (n : NT H k b) : Dp K H (.ref b) (toP (prD k)) := by
  obtain ⟨b1, b2, h, h1, h2⟩ := n
  rw [toP_prD]
  exact .tup (SqT.of h) (.cons (.tup (SqT.of h1) (dpAll_ints k.1)) (.cons (.tup (SqT.of h2) (dpAll_ints k.2)) .nil))
abbrev NL := List (PK2 × Addr)
def rSortedN : List V → Hp → VK → Prop := fun vs H Q => ∃ (a : Addr) (L : NL), vs = [.ref a] ∧ H a = some (NDO a L) ∧ (∀ q ∈ L, NT H q.1 q.2) ∧
  ∀ p (L2 : NL), H p = none → L2.map (·.1) = (L.map (·.1)).mergeSort leP → (∀ q ∈ L2, q ∈ L) → Q (.ref p) (upd H p (.lst (L2.map fun q => V.ref q.2)))
theorem each_refsN : ∀ {us : List Value} {L : NL}, PySem.W.EachIs (fun u (q : PK2 × Addr) => u = Value.ref q.2) us L → us = (L.map fun q => q.2).map Value.ref
  | _, _, .nil => rfl
  | _, _, .cons e t => by rw [e, each_refsN t]; rfl
theorem cr_sortedN {X : Cx} (hcalm : X.calm = true) (hu : X.A.units + 65 < cLine) : CallR X (.builtin "sorted") rSortedN := by
  intro pins s σ H vs us Q I r q
  obtain ⟨a, L, rfl, ha, nL, q⟩ := q
  obtain ⟨u, rfl, ru⟩ := vals1 r
  obtain rfl : u = Value.ref a := ru
  have nd : NDict s.heap a L := (I.hok a _ ha).1
  obtain ⟨o, es, ep, ho, hx, hdt, he, _⟩ := nd.ex
  have hes : es.size = L.length := by
    have := congrArg List.length he
    simpa using this
  have hL0 : L.length ≤ sizeLine := sz nd.few
  refine Calls.call_function_entry PyProof.Rows.kind_sorted PyProof.Rows.plain_sorted PyProof.Rows.entry_sorted (PyProof.Rows.args_sorted1 _) ?_
  unfold Builtin.«sorted»
  refine wpAny_bind (m := checkCount "sorted" 1 1 _) (wpAny_pure ?_)
  refine wpAny_bind (PySem.W.kdu_collect (A := X.A.in1) (PySem.KdlSrc.rawDict (es := es) (ep := ep) nd.sys) (I.ok.hd hcalm) ⟨o, ho, hx, hdt⟩ (by rw [hes]; exact hL0) fun h' tk acc hk hacc => ?_)
  have hal : acc.toList.length = L.length := by rw [Array.length_toList, hacc.1, hes]
  have each : PySem.W.EachIs (fun u (q : PK2 × Addr) => u = Value.ref q.2) acc.toList L := each_get hal fun i v z e1 e2 => by
    obtain ⟨hi, ev⟩ := hacc.2 i v (by rw [← Array.getElem?_toList]; exact e1)
    have e3 : es.toList[i]? = some ⟨hP z.1, .ref z.2, .bool true⟩ := by rw [he, List.getElem?_map, e2]; rfl
    rw [Array.getElem?_toList, Array.getElem?_eq_getElem hi] at e3
    rw [ev, Option.some.inj e3]
  have I1 : Inv X pins σ H { s with heap := h', toks := tk } := I.kept hk
  have hL : acc.toList.length ≤ sizeLine := by rw [hal]; exact hL0
  refine wpAny_bind (wpAny_newList ?_ hL)
  have hoL : (h'.push (seqObj "list" acc.toList.toArray 0)).get? h'.objs.size = some (seqObj "list" acc.toList.toArray 0) := Heap.get?_push_size _ rfl
  show wpAny _ _ _ _ _ { s with heap := h'.push (seqObj "list" acc.toList.toArray 0), toks := tk }
  let H2 : Heap := PySem.W.sortingHeap (h'.push (seqObj "list" acc.toList.toArray 0)) h'.objs.size acc.toList
  have old : ∀ b ob, h'.get? b = some ob → H2.get? b = some ob := fun b ob e => PySem.W.sortingHeap_old (Nat.ne_of_lt (Heap.lt_size e)) (Heap.get?_push_of_some _ e)
  have rd : ∀ (v : Value) (z : PK2 × Addr), z ∈ L → v = Value.ref z.2 → ∃ as, PySem.Reads H2 v (toP (prD z.1)) as := fun v z hz e => by
    obtain ⟨as, hr⟩ := Dp.reads I1 _ (.ref z.2) v (dp_NT (nL z hz)) e
    exact ⟨as, Reads.keeps (fun c oc ec => old c oc ec) hr⟩
  have er : PySem.W.EachIs (fun v d => ∃ as, PySem.Reads H2 v d as) acc.toList (L.map fun z => toP (prD z.1)) := each_map (fun v z hz h => rd v z hz h) each
  have hall : PySem.W.AllAlike (L.map fun z => toP (prD z.1)) := fun d hd d' hd' => by
    obtain ⟨z, _, rfl⟩ := List.mem_map.mp hd
    obtain ⟨z', _, rfl⟩ := List.mem_map.mp hd'
    exact alikeP z.1 z'.1
  have ht : ∀ d ∈ L.map fun z => toP (prD z.1), ∃ ys, d = .tuple ys := fun d hd => by
    obtain ⟨z, _, rfl⟩ := List.mem_map.mp hd
    exact ⟨_, rfl⟩
  have hdep : ∀ d ∈ L.map fun z => toP (prD z.1), X.A.in1.in1.units + d.depth < cLine := fun d hd => by
    obtain ⟨z, _, rfl⟩ := List.mem_map.mp hd
    have h2 := (dok_lay 7 (prD z.1) (dok_prD z.1)).2
    have e1 : X.A.in1.in1.units = X.A.units + 2 := rfl
    omega
  have S : PySem.W.SortsAt X.prog X.w X.A.in1.in1 { s with heap := H2, toks := tk } (PySem.W.dataKind H2 (L.map fun z => toP (prD z.1))) acc.toList := sorts_tuples (s := { s with heap := H2, toks := tk }) er hall ht hdep
  refine wpAny_bind (wpAny_holding (wpAny_call_entry PyProof.Rows.slot_list_sort ⟨_, hoL, rfl⟩ PyProof.Rows.entry_list_sort
    (PySem.W.list_sort_vals (s := { s with heap := h'.push (seqObj "list" acc.toList.toArray 0), toks := tk }) hoL S hL ⟨_, rfl, ?_⟩) (PyProof.Rows.args_list_sort _)))
  have out := PySem.W.sortVals_each (κ := PySem.W.dataKind H2 (L.map fun z => toP (prD z.1))) (rev := false) (fun z : PK2 × Addr => PySem.W.keyToks (toP (prD z.1))) each (each_same (fun v z hz h => by
    obtain ⟨as, hr⟩ := rd v z hz h
    exact PySem.W.dataKind_some hall (List.mem_map.mpr ⟨z, hz, rfl⟩) hr) each)
  have out : PySem.W.EachIs (fun u (q : PK2 × Addr) => u = Value.ref q.2) (PySem.W.sortVals (PySem.W.dataKind H2 (L.map fun z => toP (prD z.1))) false acc.toList acc.toList) (L.mergeSort fun z z' => leP z.1 z'.1) := out
  obtain ⟨L2, hL2⟩ : ∃ L2, L2 = L.mergeSort fun z z' => leP z.1 z'.1 := ⟨_, rfl⟩
  rw [← hL2] at out
  have e1 := each_refsN out
  have eM : L2.map (·.1) = (L.map (·.1)).mergeSort leP := by
    rw [hL2]
    exact List.map_mergeSort (r := fun z z' => leP z.1 z'.1) (s := leP) (f := fun z : PK2 × Addr => z.1) fun a _ b _ => rfl
  have inL : ∀ z ∈ L2, z ∈ L := fun z hz => by rw [hL2] at hz; exact (List.mergeSort_perm _ _).mem_iff.mp hz
  obtain ⟨e', he'⟩ := PyProof.Rows.sortedHeap_at (vs := acc.toList) (out := (PySem.W.sortVals (PySem.W.dataKind H2 (L.map fun z => toP (prD z.1))) false acc.toList acc.toList).toArray) hoL
  have hlen : ((L2.map fun z => z.2).map V.ref).length ≤ sizeLine := by
    rw [List.length_map, List.length_map, hL2, List.length_mergeSort]
    exact hL0
  have em : (L2.map fun z => V.ref z.2) = (L2.map fun z => z.2).map V.ref := by rw [List.map_map]; rfl
  refine wpAny_pure ⟨_, rfl, .ref h'.objs.size, upd H h'.objs.size (.lst (L2.map fun z => V.ref z.2)), I1.laid (t' := tk) (fun b u e => ?_) (Nat.le_refl _)
    (show ObjOk X.prog X.w _ _ _ (.lst (L2.map fun z => V.ref z.2)) from ⟨by rw [em]; exact hlen, _, e', by rw [e1, em]; exact vals_refs _, he'⟩), rfl, q _ L2 (I1.hok.fresh (Nat.le_refl _)) eM inL⟩
  have hb : b < h'.objs.size := Heap.lt_size e
  rw [PyProof.Rows.sortedHeap_old (Nat.ne_of_lt hb) (by rw [size_push']; exact Nat.lt_succ_of_lt hb)]
  exact Heap.get?_push_of_some _ e
/-! ### at the data -/
def asPK : D → Option PK2
  | .tup [.tup a, .tup b] => (asInts a).bind fun x => (asInts b).map fun y => (x, y)
  | _ => none
theorem asPK_eq {d : D} {k : PK2} (h : asPK d = some k) : d = prD k := by
  unfold asPK at h
  split at h
  · rename_i a b
    cases ea : asInts a with
    | none => rw [ea] at h; cases h
    | some x =>
      rw [ea, Option.bind_some] at h
      cases eb : asInts b with
      | none => rw [eb] at h; cases h
      | some y =>
        rw [eb] at h
        cases h
        cases asInts_eq ea
        cases asInts_eq eb
        rfl
  · cases h
theorem asPK_prD (k : PK2) : asPK (prD k) = some k := by
  show (asInts (k.1.map D.int)).bind _ = _
  rw [asInts_map, Option.bind_some, asInts_map]
  rfl
def addP (ks : List PK2) (k : PK2) : List PK2 := if k ∈ ks then ks else ks ++ [k]
def oNewN : Env → R Ow := fun _ => .ok (.dN [])
def sPutN (i : Nat) (fk fv : Env → R D) : SD := sE fv fun v ρ => match v with
  | .bl true => (match ρ[i]? with
    | some (.own (.dN ks)) => sE fk (fun k ρ => match asPK k with
      | some pk => if ks.length < 100000 then some (.nx (ρ.set i (.own (.dN (addP ks pk))))) else none
      | none => none) ρ
    | _ => none)
  | _ => none
def oSortedN (i : Nat) : Env → R Ow := fun ρ => match ρ[i]? with
  | some (.own (.dN ks)) => .ok (.lst ((ks.mergeSort leP).map prD))
  | _ => .bad
theorem reps_mem {K : PySem.W.Frag} {F : Hp} : ∀ {L : NL}, Reps K F (L.map fun q => .ref q.2) (L.map fun q => prD q.1) → ∀ q ∈ L, Rep K F (.ref q.2) (prD q.1)
  | _ :: _, .cons r t, q, h => by
    rcases List.mem_cons.mp h with e | e
    · rw [e]; exact r
    · exact reps_mem t q e
theorem mem_reps {K : PySem.W.Frag} {F : Hp} : ∀ {L : NL}, (∀ q ∈ L, Rep K F (.ref q.2) (prD q.1)) → Reps K F (L.map fun q => .ref q.2) (L.map fun q => prD q.1)
  | [], _ => .nil
  | q :: L, h => .cons (h q (by simp)) (mem_reps fun z hz => h z (by simp [hz]))
theorem nt_ref {K : PySem.W.Frag} {F H : Hp} {k : PK2} {b : Addr} (s : Ex F H) (r : Rep K F (.ref b) (prD k)) : NT H k b := by
  obtain ⟨c, e, n⟩ := nt_of r
  cases e
  exact n.ex fun c xs e => s _ _ e
section
variable {X : Cx} {W : WX} {pos : Pos}
theorem do_newN : DO X W (.Dict [] [] pos) oNewN := pe_imp pe_newN fun σ H Q ⟨F0, H0, F, ρ, S, q⟩ => fun p hp => q p _ F _ hp (Grow.addH S.sub hp) (fresh_sub S.sub hp) upd_same ⟨p, [], rfl, rfl, .nil⟩
/-- the address of an own dict by pairs -/
theorem own_N {K : PySem.W.Frag} {F0 H0 F H : Hp} {σ : L2.St} {ρ : Env} {P : Program} {w : World} {h : Heap} (S : Srep K F0 H0 F H σ ρ) (ok : HOk P w H h) {i : Nat} {ks : List PK2} (hi : ρ[i]? = some (.own (.dN ks))) :
    ∃ a L, σ[i]? = some (some (.ref a)) ∧ H a = some (NDO a L) ∧ L.map (·.1) = ks ∧ Reps K F (L.map fun q => .ref q.2) (L.map fun q => prD q.1) := by
  obtain ⟨a, u, e1, e2, e3, e4, b, L, rfl, e5, e6⟩ := id (S.own i _ hi)
  have := ndo_at (ok a _ e4)
  subst this
  exact ⟨b, L, e1, e4, e5, e6⟩
/-- what is asked may be asked of a state that stands for H -/
theorem pe_hok {e : Expr} {t u : TE} (h : PE X e t) (k : ∀ σ H Q, (∃ g, HOk X.prog X.w H g) → u σ H Q → t σ H Q) : PE X e u := ⟨fun pins s σ H Q I hw => h.run pins s σ H Q I (k σ H Q ⟨_, I.hok⟩ hw)⟩
theorem do_sortedN {i : Nat} {x : Str} {p p2 : Pos} (hc : X.calm = true) (hu : X.A.units + 65 < cLine) (hg : Gl X "sorted") (hm : X.mg "sorted" = none) (hx : PE X (.Name x p2) (tVar i))
    (na : starEach [.Name x p2] X.env = (false, eval (.Name x p2) X.env) :: starEach [] X.env := by rfl) : DO X W (.Call (.Name "sorted" p) [.Name x p2] [] pos) (oSortedN i) := by
  refine pe_hok (pe_callB (id := "sorted") (cr_sortedN hc hu) hg hm (by decide +kernel) (pa_cons hx pa_nil na) (he := na)) fun σ H Q ⟨g, ok⟩ ⟨F0, H0, F, ρ, S, q⟩ => ?_
  unfold oSortedN at q
  cases hi : ρ[i]? with
  | none => rw [hi] at q; exact q.elim
  | some sl =>
    rw [hi] at q
    cases sl with
    | own o =>
      cases o with
      | dN ks =>
        obtain ⟨a, L, e1, e4, e5, e6⟩ := own_N S ok hi
        have rm := reps_mem e6
        refine ⟨.ref a, e1, a, L, rfl, e4, fun z hz => nt_ref S.sub (rm z hz), fun p L2 hp eM inL => ?_⟩
        refine q p _ F _ hp (Grow.addH S.sub hp) (fresh_sub S.sub hp) upd_same ⟨_, rfl, ?_⟩
        have er : ((ks.mergeSort leP).map prD) = L2.map fun z => prD z.1 := by
          rw [← e5, ← eM, List.map_map]
          rfl
        rw [er]
        exact mem_reps fun z hz => rm z (inL z hz)
      | _ => exact q.elim
    | un => exact q.elim
    | val _ => exact q.elim
theorem ps_hok {st : Stmt} {t u : TS} (h : PS X st t) (k : ∀ E σ H, (∃ g, HOk X.prog X.w H g) → u E σ H → t E σ H) : PS X st u := ⟨fun pins s σ H E I hw => h.run pins s σ H E I (k E σ H ⟨_, I.hok⟩ hw)⟩
/-- as rSetN, the object's own address found out from the heap -/
def rSetNh : TSet := fun o i v H Q => ∃ a b' k b L, o = .ref a ∧ i = .ref b ∧ v = .bl true ∧ H a = some (NDO b' L) ∧ NT H k b ∧ (∀ q ∈ L, NT H q.1 q.2) ∧ L.length < 100000 ∧ (b' = a → Q (upd H a (NDO a (addN L k b))))
theorem set_Nh (hu : X.A.units + 65 < cLine) : PSet X rSetNh := by
  intro pins s σ H o i v ov iv u Q I ro ri rv h
  obtain ⟨a, b', k, b, L, rfl, rfl, rfl, ha, nk, nL, few, q⟩ := h
  have e := ndo_at (I.hok a _ ha)
  subst e
  exact set_N hu pins s σ H _ _ _ ov iv u Q I ro ri rv ⟨b', k, b, L, rfl, rfl, rfl, ha, nk, nL, few, q rfl⟩
theorem ds_putN {i : Nat} {x : Str} {p pos' : Pos} {b value : Expr} {fk fv : Env → R D} (hu : X.A.units + 65 < cLine) (hx : PE X (.Name x p) (tVar i)) (hb : DE X W b fk) (hv : DE X W value fv)
    (hs : swapsWith value (some (.Subscript (.Name x p) b pos')) pos.line X.env = pure false := by rfl) :
    DS X W (.Assign [.Subscript (.Name x p) b pos'] value pos) (sPutN i fk fv) := by
  refine ps_imp (ps_stoR hx hb hv (set_Nh hu) hs) fun E σ H hh => ?_
  refine sE_of hh fun F0 H0 F ρ d v F1 H1 S g1 rv q => ?_
  cases d with
  | bl c =>
    cases c with
    | false => exact q.elim
    | true =>
      simp only at q
      cases hi : ρ[i]? with
      | none => rw [hi] at q; exact q.elim
      | some sl =>
        rw [hi] at q
        cases sl with
        | own o =>
          cases o with
          | dN ks =>
            have S1 := S.go g1
            obtain ⟨a, u, e1, e2, e3, e4, b', L, rfl, e5, e6⟩ := id (S1.own i _ hi)
            cases rv
            refine ⟨.ref a, e1, ?_⟩
            show tD X.K W fk σ H1 fun y H3 => rSetNh (.ref a) y (.bl true) H3 fun H4 => E.nx σ H4
            simp only [sE] at q
            cases ek : fk ρ with
            | bad => simp only [ek] at q; exact q.elim
            | exc c => simp only [ek] at q; exact tD_exc S1 ek fun F2 H2 g2 => q σ F2 H2 g2.ef (S1.go g2)
            | ok k =>
              simp only [ek] at q
              refine tD_ok S1 ek fun y F2 H2 g2 rk => ?_
              cases ep : asPK k with
              | none => simp only [ep] at q; exact q.elim
              | some pk =>
                simp only [ep] at q
                by_cases few : ks.length < 100000
                · rw [if_pos few] at q
                  cases asPK_eq ep
                  obtain ⟨c, rfl, nk⟩ := nt_of rk
                  have rm := reps_mem (e6.ex g2.ef)
                  refine ⟨a, b', pk, c, L, rfl, rfl, rfl, g2.eh.at e4, nk.ex (fun z xs e => g2.sub _ _ e), fun z hz => nt_ref g2.sub (rm z hz), by rw [← List.length_map (f := fun z : PK2 × Addr => z.1), e5]; exact few, fun eb => ?_⟩
                  subst eb
                  refine q σ F2 _ g2.ef ((S1.go g2).mutate hi e1 ⟨b', addN L pk c, rfl, ?_, ?_⟩)
                  · unfold addN addP
                    rw [e5]
                    split
                    · exact e5
                    · rw [List.map_append, e5]; rfl
                  · refine mem_reps fun z hz => ?_
                    unfold addN at hz
                    split at hz
                    · exact rm z hz
                    · rcases List.mem_append.mp hz with y | y
                      · exact rm z y
                      · rw [List.mem_singleton.mp y]; exact rk
                · rw [if_neg few] at q
                  exact q.elim
          | _ => exact q.elim
        | un => exact q.elim
        | val _ => exact q.elim
  | _ => exact q.elim
end
section
variable {P : Program} {w : World} {K : PySem.W.Frag} {mg : Str → Option Value} {base : Heap} {X : Cx} {W : WX} {N : List Str} {sc : Scope} {k : Nat} {pos : Pos}
theorem yputN (C : Ctx P w K mg base X W N sc k) (i : Nat) {x : Str} {q pos' : Pos} {b value : Expr} {fk fv : DL.Env → R D} (h : N[i]? = some x) (hv : visB sc x = true) (hb : DE X W b fk) (hval : DE X W value fv) (hd : (x == ("__debug__" : Str)) = false := by decide) (hcd : (x == ("__classdict__" : Str)) = false := by decide)
    (hs : swapsWith value (some (.Subscript (.Name x q) b pos')) pos.line X.env = pure false := by rfl) : DS X W (.Assign [.Subscript (.Name x q) b pos'] value pos) (sPutN i fk fv) :=
  ds_putN C.hu (pe_var (C.at h) (C.vis hv) hd hcd) hb hval hs
theorem xsortedN (C : Ctx P w K mg base X W N sc k) (i : Nat) {x : Str} {p q : Pos} (hm : mg "sorted" = none) (hg : glB sc "sorted" = true) (h : N[i]? = some x) (hv : visB sc x = true) (hd : (x == ("__debug__" : Str)) = false := by decide) (hcd : (x == ("__classdict__" : Str)) = false := by decide) :
    DO X W (.Call (.Name "sorted" p) [.Name x q] [] pos) (oSortedN i) := do_sortedN C.calm C.hu (C.gl hg) (C.no hm) (pe_var (C.at h) (C.vis hv) hd hcd)
end
theorem putN_ev {i : Nat} {fk fv : Env → R D} {ρ : Env} {ks : List PK2} {k : PK2} (h1 : fv ρ = .ok (.bl true)) (h2 : ρ[i]? = some (.own (.dN ks))) (h3 : fk ρ = .ok (prD k)) (h4 : ks.length < 100000) : sPutN i fk fv ρ = some (.nx (ρ.set i (.own (.dN (addP ks k))))) := by
  unfold sPutN sE
  simp only [h1, h2, h3, asPK_prD, if_pos h4]
end DL

set_option Elab.async false
set_option linter.all false
set_option maxRecDepth 100000
set_option maxHeartbeats 2000000
/-! t[::-1] of a tuple. -/
namespace DL
variable [Tabs]
open PySem PySem.Spec PyProof.Rows L2
open Evl (Ex)
theorem pick_take (r : List Value) : ∀ n, n ≤ r.length → (List.range n).filterMap (fun k => r[k]?) = r.take n
  | 0, _ => rfl
  | n + 1, h => by
    rw [List.range_succ, List.filterMap_append, pick_take r n (by omega), List.take_succ]
    congr 1
theorem pick_back (xs : Array Value) : ((List.range xs.size).filterMap fun (k : Nat) => xs[(((xs.size : Int) - 1) + (k : Int) * (-1)).toNat]?).toArray = xs.toList.reverse.toArray := by
  congr 1
  have e : ∀ k ∈ List.range xs.size, xs[(((xs.size : Int) - 1) + (k : Int) * (-1)).toNat]? = xs.toList.reverse[k]? := fun k hk => by
    have hk := List.mem_range.mp hk
    rw [List.getElem?_reverse (by rw [Array.length_toList]; exact hk), Array.getElem?_toList, Array.length_toList]
    congr 1
    omega
  have key : ∀ l : List Nat, (∀ k ∈ l, xs[(((xs.size : Int) - 1) + (k : Int) * (-1)).toNat]? = xs.toList.reverse[k]?) → l.filterMap (fun (k : Nat) => xs[(((xs.size : Int) - 1) + (k : Int) * (-1)).toNat]?) = l.filterMap fun k => xs.toList.reverse[k]? := by
    intro l
    induction l with
    | nil => intro _; rfl
    | cons k l ih =>
      intro h
      rw [List.filterMap_cons, List.filterMap_cons, h k (by simp), ih fun z hz => h z (by simp [hz])]
  rw [key _ e, pick_take _ _ (by rw [List.length_reverse, Array.length_toList]; exact Nat.le_refl _), List.take_of_length_le (by rw [List.length_reverse, Array.length_toList]; exact Nat.le_refl _)]
section
variable {prog : Program} {w : World} {A : Around} {E : Value → Shared → Prop} {s : Shared}
theorem applied_back {sl : Addr} {vs : Value} {n : Nat} {Q : Int × Int × Nat → Shared → Prop} (hs : s.heap.IsSliceOf sl .none .none vs) (ps : IsPart vs (some (-1))) (q : Q ((n : Int) - 1, -1, n) s) : wpAny (model prog w) A (Builtin.Slice.sliceApplied (.ref sl) (pure (n : Int))) Q E s := by
  obtain ⟨os, gs, cs, ds⟩ := id hs
  unfold Builtin.Slice.sliceApplied Builtin.Slice.sliceFields
  refine wpAny_bind (wpAny_bind (wpAny_field gs ds (x := .none) rfl (wpAny_bind (wpAny_field gs ds (x := .none) rfl (wpAny_bind (wpAny_field gs ds (x := vs) rfl (wpAny_pure ?_)))))))
  refine wpAny_bind (HT.slicePart_ ps ?_)
  show wpAny _ _ (if ((-1 : Int) == 0) = true then _ else _) _ _ s
  rw [if_neg (by decide)]
  refine wpAny_bind (HT.slicePart_ .none (wpAny_bind (HT.slicePart_ .none (wpAny_bind (wpAny_pure ?_)))))
  show wpAny _ _ (match Builtin.Slice.sliceAdjust none none (-1) (n : Int) with | (lo, hi) => pure (lo, (-1 : Int), Builtin.Slice.slicePlaces lo hi (-1))) _ _ s
  have e1 : Builtin.Slice.sliceAdjust none none (-1) (n : Int) = ((n : Int) - 1, -1) := by
    unfold Builtin.Slice.sliceAdjust
    simp
  rw [e1]
  have e2 : Builtin.Slice.slicePlaces ((n : Int) - 1) (-1) (-1) = n := by
    unfold Builtin.Slice.slicePlaces
    have h1 : ¬ ((-1 : Int) > 0) := by omega
    simp only [h1, if_false]
    split
    · have : (n : Int) - 1 - -1 - 1 = (n : Int) - 1 := by omega
      simp
    · omega
  show wpAny _ _ (pure ((n : Int) - 1, (-1 : Int), Builtin.Slice.slicePlaces ((n : Int) - 1) (-1) (-1))) _ _ s
  rw [e2]
  exact wpAny_pure q
theorem tuple_back {t sl : Addr} {its : Array Value} {vs : Value} {Q : Value → Shared → Prop} (ht : IsTup s.heap t its) (hs : s.heap.IsSliceOf sl .none .none vs) (ps : IsPart vs (some (-1)))
    (q : Q (.ref s.heap.objs.size) { s with heap := s.heap.push { cls := .type "tuple", data := .seq its.toList.reverse.toArray } }) (n : its.size ≤ sizeLine) : wpAny (model prog w) A (getItem (.ref t) (.ref sl)) Q E s := by
  have fit : sizeOk (.seq its.toList.reverse.toArray) := by
    show its.toList.reverse.toArray.size ≤ sizeLine
    rw [List.size_toArray, List.length_reverse, Array.length_toList]
    exact n
  obtain ⟨os, gs, cs, ds⟩ := id hs
  have tys : s.TypeIs (.ref sl) "slice" := ⟨os, gs, cs⟩
  unfold getItem
  try with_reducible refine wpAny_holding ?_
  first | refine wpAny_bind (wpAny_pure ?_) | skip
  refine wpAny_bind (wpAny_sequenceKey ht.typeIs (by decide) ?_)
  refine wpAny_bind (wpAny_callSpecial?_slot (name := Str.ofString "__getitem__") ht.typeIs PyProof.Rows.slot_tuple_getitem (wpAny_call_entry PyProof.Rows.slot_tuple_getitem ht.typeIs PyProof.Rows.entry_tuple_getitem ?_ (PyProof.Rows.args_tuple_getitem _ _)))
  show wpAny _ _ (Builtin.Tuple.tupleItemsOf (.ref t) >>= _) _ _ s
  refine wpAny_bind (PyProof.Rows.tupleItemsOf_ ht (wpAny_bind (wpAny_typeOf tys ?_)))
  rw [if_pos (by decide)]
  refine wpAny_bind (applied_back hs ps ?_)
  have no : ¬ ((((its.size : Int) - 1) == 0 && (-1 : Int) == 1 && its.size == its.size) = true) := by simp
  show wpAny _ _ (if (((its.size : Int) - 1) == 0 && (-1 : Int) == 1 && its.size == its.size) = true then _ else _) _ _ s
  rw [if_neg no, pick_back]
  first
    | exact wpAny_bind (m := Builtin.Tuple.tupleExact _) (wpAny_newObj_type (wpAny_pure ⟨_, rfl, wpAny_pure q⟩) fit)
    | exact wpAny_bind (m := Builtin.Tuple.tupleExact _) (wpAny_newObj_type (wpAny_bind (wpAny_pure (wpAny_pure ⟨_, rfl, wpAny_pure q⟩))) fit)
    | exact wpAny_bind (wpAny_bind (m := Builtin.Tuple.tupleExact _) (wpAny_newObj_type (wpAny_pure (wpAny_pure ⟨_, rfl, wpAny_pure q⟩)) fit))
    | exact wpAny_bind (wpAny_bind (m := Builtin.Tuple.tupleExact _) (wpAny_newObj_type (wpAny_pure ⟨_, rfl, wpAny_pure q⟩) fit))
end
section
variable {X : Cx} {W : WX} {pos : Pos}
def tRevT (K : PySem.W.Frag) (te : TE) : TE := fun σ H Q => te σ H fun x H1 => ∃ a xs, x = .ref a ∧ SqT K H1 a xs ∧ ∀ p, H1 p = none → Q (.ref p) (upd H1 p (.tup xs.reverse))
theorem pe_revT {e : Expr} {te : TE} {k : Nat} {p1 p2 p3 : Pos} (he : PE X e te) : PE X (.Subscript e (.Slice none none (some (.UnaryOp .USub (.Constant (.int 1) k p1) p2)) p3) pos) (tRevT X.K te) := by
  refine ⟨fun pins s σ H Q I h => ?_⟩
  refine Subscript_ (thn (he.run pins s σ H _ I h) fun v s1 ⟨x, H1, I1, r1, a, xs, ex, hx, q⟩ => ?_)
  subst ex
  cases r1
  have stp : PO X (some (.UnaryOp .USub (.Constant (.int 1) k p1) p2)) (tPart (tUn (rU fun i => .int (-i)) (tC (.int 1)))) := po_some (pe_un un_neg pe_int)
  refine wpAny_Slice (thn (po_none.run pins s1 σ H1 (fun o H2 => o = none ∧ H2 = H1) I1 ⟨rfl, rfl⟩) fun vl s2 ⟨l, H2, I2, pl, el, e2⟩ => ?_)
  subst el e2
  refine thn (po_none.run pins s2 σ H2 (fun o H3 => o = none ∧ H3 = H2) I2 ⟨rfl, rfl⟩) fun vu s3 ⟨u, H3, I3, pu, eu, e3⟩ => ?_
  subst eu e3
  refine thn (stp.run pins s3 σ H3 (fun o H4 => o = some (-1) ∧ H4 = H3) I3 ⟨1, rfl, -1, rfl, rfl, rfl⟩) fun vs s4 ⟨o, H4, I4, ps, eo, e4⟩ => ?_
  subst eo e4
  cases pl
  cases pu
  have I5 : Inv X pins σ H4 { s4 with heap := s4.heap.push { cls := .type "slice", data := .fields #[.none, .none, vs] } } := I4.kept (t' := s4.toks) fun b ob q => Heap.get?_push_of_some _ q
  obtain ⟨its, r, ht, hz⟩ := I5.tuple hx
  have hlen : its.toArray.size = xs.length := by rw [List.size_toArray]; exact r.length.symm
  show wpAny (model X.prog X.w) X.A (subscriptTail e (.Slice none none (some (.UnaryOp .USub (.Constant (.int 1) k p1) p2)) p3) (.ref a) (.ref s4.heap.objs.size)) (EP X pins σ Q) X.xe { s4 with heap := s4.heap.push { cls := .type "slice", data := .fields #[.none, .none, vs] } }
  refine tail_any (ops := [.ref a, .ref s4.heap.objs.size]) ht.typeIs PyProof.Rows.slot_tuple_getitem.lookup ?_ (by with_unfolding_all rfl)
  refine tuple_back ht (Heap.IsSliceOf.new _ .none .none vs) ps ?_ (by rw [hlen]; exact hz)
  refine ⟨.ref _, _, I5.laid (t' := s4.toks) (o := .tup xs.reverse) (fun b ob q => Heap.get?_push_of_some _ q) (Nat.le_refl _) ?_, rfl, q _ (I5.hok.fresh (Nat.le_refl _))⟩
  exact ⟨by rw [List.length_reverse]; exact hz, _, r.reverse, IsTup.new _ _⟩
theorem reps_rev {K : PySem.W.Frag} {F : Hp} : ∀ {xs : List V} {ds : List D}, Reps K F xs ds → Reps K F xs.reverse ds.reverse
  | _, _, .nil => .nil
  | _, _, .cons r t => by
    rw [List.reverse_cons, List.reverse_cons]
    exact reps_snoc (reps_rev t) r
def eRev (f : Env → R D) : Env → R D := fun ρ => (f ρ).bind fun d => match d with
  | .tup l => .ok (.tup l.reverse)
  | _ => .bad
theorem de_rev {e : Expr} {f : Env → R D} {k : Nat} {p1 p2 p3 : Pos} (he : DE X W e f) : DE X W (.Subscript e (.Slice none none (some (.UnaryOp .USub (.Constant (.int 1) k p1) p2)) p3) pos) (eRev f) := by
  refine pe_imp (pe_revT he) fun σ H Q ⟨F0, H0, F, ρ, S, q⟩ => ?_
  unfold eRev at q
  show tD X.K W f σ H fun x H1 => ∃ a xs, x = .ref a ∧ SqT X.K H1 a xs ∧ ∀ p, H1 p = none → Q (.ref p) (upd H1 p (.tup xs.reverse))
  cases ef : f ρ with
  | bad => rw [ef] at q; exact q.elim
  | exc c => rw [ef] at q; exact tD_exc S ef q
  | ok d =>
    rw [ef, R.bind_ok] at q
    refine tD_ok S ef fun v F1 H1 g1 r1 => ?_
    cases d with
    | tup l =>
      cases r1 with
      | @tup a xs _ e1 k1 =>
        refine ⟨a, xs, rfl, tT g1.sub e1, fun p hp => ?_⟩
        exact q _ _ _ (g1.trans (Grow.add g1.sub hp)) (.tup upd_same ((reps_rev k1).ex (Ex.new (fresh_sub g1.sub hp))))
    | _ => exact q.elim
end
@[simp] theorem ev_rev {ρ : Env} (f : Env → R D) : eRev f ρ = (f ρ).bind fun d => match d with
  | .tup l => .ok (.tup l.reverse)
  | _ => .bad := rfl
end DL

set_option Elab.async false
set_option linter.all false
set_option maxRecDepth 100000
set_option maxHeartbeats 1000000
/-! sorted(t) of a tuple of ints. -/
namespace DL
variable [Tabs]
open PySem PySem.Spec PyProof.Rows L2
open Evl (Ex)
section
variable {prog : Program} {w : World} {A : Around} {E : Value → Shared → Prop} {s : Shared}
theorem collect_tup {l : Addr} {vs : List Value} {Q : List Value → Shared → Prop} (hl : IsTup s.heap l vs.toArray)
    (h : Q vs { s with heap := (s.heap.push (seqObj "list" #[] 0)).update s.heap.objs.size (Obj.mapSeq (· ++ vs.toArray)) }) (hsz : vs.length ≤ sizeLine) :
    wpAny (model prog w) A (collect (.ref l)) Q E s := by
  obtain ⟨o, ho, hc, n, hd⟩ := id hl
  unfold collect
  refine wpAny_bind (wpAny_runValue (codeAny_builtin entry_proto_collect' ?_))
  show wpAny _ _ (do again (.builtin "list.__iadd__" ⟨[← newList [], .ref l], []⟩)) _ _ s
  refine wpAny_bind (wpAny_newList (wpAny_pure ⟨Code.quiet_builtin _ (by decide +kernel), codeAny_builtin entry_list_iadd' ?_⟩))
  show wpAny _ _ (Builtin.List.listExtendWith (.ref s.heap.objs.size) (.ref l) (.ref s.heap.objs.size)) _ _ { s with heap := s.heap.push (seqObj "list" #[] 0) }
  unfold Builtin.List.listExtendWith
  have ho' : (s.heap.push (seqObj "list" #[] 0)).get? l = some o := Heap.get?_push_of_some _ ho
  refine wpAny_bind (wpAny_typeOf (T := "tuple") ⟨o, ho', hc⟩ ?_)
  have ht : (Value.type "tuple" == Value.type "tuple") = true := by rfl
  rw [if_pos (by rw [ht]; simp)]
  refine wpAny_bind (listItems_at ho' hd ?_)
  refine wpAny_bind (listItems_at (xs := #[]) (n := 0) (Heap.get?_push_size _ rfl) rfl ?_)
  rw [if_neg (by simp)]
  refine wpAny_bind (listUpdate_at (xs := #[]) (n := 0) (Heap.get?_push_size _ rfl) rfl ?_ (Nat.zero_le _) (by show (#[] ++ vs.toArray).size ≤ sizeLine + 1; simp only [Array.size_append, List.size_toArray, List.length_nil]; omega))
  refine wpAny_pure ?_
  show wpAny (model prog w) A (do
      let o ← load s.heap.objs.size
      match o.data with
      | .seq xs _ => pure xs.toList
      | _ => unsupported "internal:collect") Q E { s with heap := (s.heap.push (seqObj "list" #[] 0)).update s.heap.objs.size (Obj.mapSeq (· ++ vs.toArray)) }
  refine wpAny_bind (wpAny_load (get?_update_seq (Heap.get?_push_size _ rfl) _) ?_)
  show wpAny _ _ (pure ((#[] : Array Value) ++ vs.toArray).toList) Q E _
  rw [show ((#[] : Array Value) ++ vs.toArray).toList = vs by simp]
  exact wpAny_pure h
theorem sorted_tup {l : Addr} {vs : List Value} {ltv : Value → Value → Bool} {Q : Value → Shared → Prop} (O : SrtO.Swo ltv) (hl : IsTup s.heap l vs.toArray) (hz : vs.length ≤ sizeLine)
    (hS : 2 ≤ vs.length → ∀ (h₁ : Heap) (a : Addr), h₁.get? a = some (seqObj "list" vs.toArray 0) → (∀ b o, s.heap.get? b = some o → b ≠ a ∧ h₁.get? b = some o) → SrtO.SortableO prog w A.in1.in1 { s with heap := h₁ } a vs ltv)
    (h : ∀ out : List Value, SrtO.Srtd ltv out → SrtO.Stb ltv out vs → Q (.ref (s.heap.objs.size + 1)) { s with heap := sortedAll s.heap vs out.toArray }) :
    wpAny (model prog w) A (call (.builtin "sorted") [.ref l]) Q E s := by
  refine Calls.call_function_entry kind_sorted plain_sorted entry_sorted (args_sorted1 _) ?_
  unfold Builtin.«sorted»
  refine wpAny_bind (m := checkCount "sorted" 1 1 _) (wpAny_pure ?_)
  refine wpAny_bind (collect_tup hl ?_ hz)
  refine wpAny_bind (wpAny_newList ?_ hz)
  have hsz : ((s.heap.push (seqObj "list" #[] 0)).update s.heap.objs.size (Obj.mapSeq (· ++ vs.toArray))).objs.size = s.heap.objs.size + 1 := by
    rw [Heap.size_update, size_push']
  have hoL : (((s.heap.push (seqObj "list" #[] 0)).update s.heap.objs.size (Obj.mapSeq (· ++ vs.toArray))).push (seqObj "list" vs.toArray 0)).get? (s.heap.objs.size + 1) = some (seqObj "list" vs.toArray 0) := by
    rw [← hsz]; exact Heap.get?_push_size _ rfl
  have keep : ∀ b o, s.heap.get? b = some o → b ≠ s.heap.objs.size + 1 ∧ (((s.heap.push (seqObj "list" #[] 0)).update s.heap.objs.size (Obj.mapSeq (· ++ vs.toArray))).push (seqObj "list" vs.toArray 0)).get? b = some o := fun b o q => by
    have hlt : b < s.heap.objs.size := Heap.lt_size q
    refine ⟨Nat.ne_of_lt (Nat.lt_succ_of_lt hlt), Heap.get?_push_of_some _ ?_⟩
    rw [Heap.get?_update_ne _ _ _ _ (Nat.ne_of_lt hlt)]
    exact Heap.get?_push_of_some _ q
  show wpAny _ _ _ _ _ { s with heap := ((s.heap.push (seqObj "list" #[] 0)).update s.heap.objs.size (Obj.mapSeq (· ++ vs.toArray))).push (seqObj "list" vs.toArray 0) }
  rw [hsz]
  refine wpAny_bind (wpAny_holding (wpAny_call_entry slot_list_sort ⟨_, hoL, rfl⟩ entry_list_sort (SrtO.list_sort_ord O hoL hz (fun h2 => hS h2 _ _ hoL keep) fun out hs hb => ⟨_, rfl, ?_⟩) (args_list_sort _)))
  exact wpAny_pure ⟨_, rfl, h out hs hb⟩
end
def rSortedTp (K : PySem.W.Frag) : List V → Hp → VK → Prop := fun vs H Q => ∃ (a : Addr) (ns : List Int), vs = [V.ref a] ∧ SqT K H a (ns.map V.int) ∧
  ∀ (ns' : List Int) (p : Addr), ns'.Perm ns → ns'.Pairwise (· ≤ ·) → H p = none → Q (.ref p) (upd H p (.lst (ns'.map V.int)))
theorem cr_sortedTp {X : Cx} : CallR X (.builtin "sorted") (rSortedTp X.K) := by
  intro pins s σ H vs us Q I r h
  obtain ⟨a, ns, rfl, hs, q⟩ := h
  obtain ⟨its, rv, hl, hz⟩ := I.tuple hs
  rw [Vals.ref1 r]
  have hi := rv.ints
  refine sorted_tup SrtO.swo_int hl (by rw [← rv.length]; exact hz) (fun h2 h₁ a' _ _ => SrtO.ints_sortable hi h2) fun out h1 h2 => ?_
  obtain ⟨k1, k2, k3⟩ := SrtO.ints_out hi h1 h2
  obtain ⟨ep, he'⟩ := PyProof.Rows.sortedAll_at s.heap its out.toArray
  have hlen : ((out.map SrtO.iv).map V.int).length ≤ sizeLine := by
    rw [List.length_map, k2.length_eq]
    rw [List.length_map] at hz
    exact hz
  exact ⟨.ref _, upd H (s.heap.objs.size + 1) (.lst ((out.map SrtO.iv).map V.int)), I.laid (t' := s.toks) (fun _ _ => PyProof.Rows.sortedAll_old) (Nat.le_succ _) ⟨hlen, out, ep, vals_of_ints k1, he'⟩, rfl, q _ _ k2 k3 (I.hok.fresh (Nat.le_succ _))⟩
def gSortedTp : List D → Option (List D)
  | [.tup l] => (asInts l).map fun ns => (srtI ns).map D.int
  | _ => none
theorem co_sortedTp {K : PySem.W.Frag} : CallO K (rSortedTp K) gSortedTp := fun F H xs as d Q s r e q => by
  unfold gSortedTp at e
  split at e
  · rename_i l
    cases ei : asInts l with
    | none => rw [ei] at e; cases e
    | some ns =>
      rw [ei] at e
      cases e
      cases asInts_eq ei
      obtain ⟨v, rfl, rv⟩ := r.one
      cases rv with
      | tup e1 r1 =>
        refine ⟨_, ns, rfl, by rw [← r1.of_ints]; exact tT s e1, fun ns' p pm pw hp => ?_⟩
        have : ns' = srtI ns := srt_uniq pw (srtI_srt ns) (pm.trans (srtI_perm ns).symm)
        subst this
        exact q p _ F _ hp (Grow.addH s hp) (fresh_sub s hp) upd_same (Reps.ints _)
  · cases e
section
variable {P : Program} {w : World} {K : PySem.W.Frag} {mg : Str → Option Value} {base : Heap} {X : Cx} {W : WX} {N : List Str} {sc : Scope} {k : Nat} {pos : Pos}
theorem xsortedTp {e : Expr} {es : List Expr} {p : Pos} {as : DL.Env → R (List D)} (C : Ctx P w K mg base X W N sc k) (hm : mg "sorted" = none) (hg : glB sc "sorted" = true) (ha : DA X W (e :: es) as) (he : starEach (e :: es) X.env = (false, eval e X.env) :: starEach es X.env := by rfl) (hpl : (backTo pos (starEach es X.env)).any (·.1) = false := by rfl) :
    DO X W (.Call (.Name "sorted" p) (e :: es) [] pos) (oCall gSortedTp as) := do_callB cr_sortedTp co_sortedTp (C.gl hg) (C.no hm) (by decide +kernel) ha (he := he) (hpl := hpl)
end
end DL

set_option Elab.async false
set_option linter.all false
set_option maxRecDepth 100000
set_option maxHeartbeats 2000000
/-! Lambdas are made: x = [lambda: ..], x.append(lambda: ..). -/
namespace DL
variable [Tabs]
open PySem PySem.Spec PyProof.Rows L2
open Evl (Ex)
abbrev lamObj (cl : List (Str × Addr)) (l : Lam) (pm : Value) (c' : Addr) (ctv : Value) : Obj := PySem.W.kla_obj "<lambda>" l.q l.params l.body l.scope (cloFrom cl l.scope.names []) pm c' ctv
theorem upd_comm {H : Hp} {a b : Addr} {o u : HO} (h : a ≠ b) : upd (upd H a o) b u = upd (upd H b u) a o := by
  funext c
  unfold upd
  by_cases h1 : c = a
  · subst h1
    rw [if_neg h, if_pos rfl, if_pos rfl]
  · by_cases h2 : c = b
    · subst h2
      rw [if_pos rfl, if_neg h1, if_pos rfl]
    · rw [if_neg h2, if_neg h1, if_neg h1, if_neg h2]
/-- a lambda is made, over the maker's table at P -/
def tLamE (cl : List (Str × Addr)) (P : Addr) (l : Lam) : TE := fun σ H Q => ∃ ps : Array Value, H P = some (.tbl ps) ∧ TriplesOk ps.toList ∧ (∀ (pos : Pos) (cv : Value), codeAmong pos ps.toList = some cv → ∃ c, cv = .ref c ∧ H c = some (LamX.CodeO c l.q)) ∧
  (∀ (f c' : Addr) (pm ctv : Value) (ps' : Array Value), H f = none → H c' = none → f ≠ c' → TriplesOk ps'.toList → (∀ (pos : Pos) (cv : Value), codeAmong pos ps'.toList = some cv → codeAmong pos ps.toList = some cv ∨ cv = .ref c') →
    Q (.ref f) (upd (upd (upd H c' (LamX.CodeO c' l.q)) P (.tbl ps')) f (.frz (lamObj cl l pm c' ctv) UO))) ∧
  ∀ (f c' : Addr) (pm ctv : Value), H f = none → H c' = some (LamX.CodeO c' l.q) → (∃ pos : Pos, codeAmong pos ps.toList = some (.ref c')) → Q (.ref f) (upd H f (.frz (lamObj cl l pm c' ctv) UO))
theorem uo_ok {P : Program} {w : World} {H : Hp} {h : Heap} {a : Addr} {o : Obj} (e : h.get? a = some o) : ObjOk P w H h a UO := ⟨trivial, ⟨o, e⟩, fun _ _ _ _ => trivial⟩
section
variable {X : Cx} {W : WX} {pos : Pos}
theorem pe_lam {c P : Addr} {cl : List (Str × Addr)} {l : Lam} (TB : LamX.TabB X.base X.mg c P) (hcode : X.env.code = .ref c) (hq : l.q = X.env.qual ++ "<lambda>") (hcl : X.env.cells = cl) (L : LamX.LamS X.env.scope l.scope) (hdef : defaultsOf l.params X.env = ([], [])) :
    PE X (.Lambda l.params l.body l.scope pos) (tLamE cl P l) := by
  refine ⟨fun pins s σ H Q I h => ?_⟩
  subst hcl
  obtain ⟨ps, hP, ht, ha, hnew, hhit⟩ := h
  refine PySem.W.kla_eval hdef ?_
  rw [← hq]
  have bP : s.heap.BuiltinsAt X.mg P := TB.bm.keeps I.bk
  have hP' : s.heap.get? P = some { cls := .none, data := .fields ps } := I.hok P _ hP
  have hfree := L.has I.ok
  cases hc : codeAmong pos ps.toList with
  | none =>
    refine PySem.W.kla_makeFunction (mg := X.mg) (c := c) (P := P) (ps := ps) (closure_ok hfree) I.ok.glob (I.mod.glob.keeps I.bk) hcode (TB.code.keeps I.bk) hP' ht hc TB.gP bP fun c' ctv h' tk hx hge hlt hrec htb => ?_
    obtain ⟨c2, oc, vs, t, e2, hoc, hd, hv⟩ := hrec
    cases e2
    have hsz : s.heap.objs.size ≤ h'.objs.size := Nat.le_trans hge (Nat.le_of_lt hlt)
    have nC : H c' = none := I.hok.fresh hge
    have nPc : P ≠ c' := ne_of_none hP nC
    have I1 := LamX.inv_table (t' := tk) (more := #[rawInt pos.line, rawInt pos.col, .ref c']) (h' := h') I hP hx htb hge ⟨oc, vs, t, hoc, hd, hv⟩
    have I2 := I1.laid (t' := tk) (a := h'.objs.size) (h' := h'.push (lamObj X.env.cells l ((X.mg "__name__").getD .none) c' ctv)) (o := .frz (lamObj X.env.cells l ((X.mg "__name__").getD .none) c' ctv) UO) (fun b u e => Heap.get?_push_of_some _ e) (Nat.le_refl _) ⟨Heap.get?_push_size _ rfl, uo_ok (Heap.get?_push_size _ rfl)⟩
    have eL : (ps ++ #[rawInt pos.line, rawInt pos.col, .ref c']).toList = ps.toList ++ [rawInt pos.line, rawInt pos.col, .ref c'] := by simp
    rw [upd_comm nPc] at I2
    refine ⟨.ref h'.objs.size, _, I2, rfl, hnew h'.objs.size c' _ ctv _ (I.hok.fresh hsz) nC (Nat.ne_of_gt hlt) (by rw [eL]; exact PySem.TriplesOk_snoc _ _ _ _ ht) fun p' cv hcv => ?_⟩
    rw [eL] at hcv
    exact LamX.among_app _ ht hcv
  | some cv =>
    obtain ⟨c', e, hco⟩ := ha pos cv hc
    subst e
    refine PySem.W.kla_makeFunctionHit (mg := X.mg) (c := c) (P := P) (ps := ps) (closure_ok hfree) I.ok.glob (I.mod.glob.keeps I.bk) hcode (TB.code.keeps I.bk) hP' ht hc bP fun ctv h' tk hx hsz => ?_
    have I2 : Inv X pins σ _ { s with heap := h'.push (lamObj X.env.cells l ((X.mg "__name__").getD .none) c' ctv), toks := tk } := I.laid (t' := tk) (a := h'.objs.size) (h' := h'.push (lamObj X.env.cells l ((X.mg "__name__").getD .none) c' ctv)) (o := .frz (lamObj X.env.cells l ((X.mg "__name__").getD .none) c' ctv) UO) (fun b u e => Heap.get?_push_of_some _ (hx b u e)) hsz ⟨Heap.get?_push_size _ rfl, uo_ok (Heap.get?_push_size _ rfl)⟩
    exact ⟨.ref h'.objs.size, _, I2, rfl, hhit h'.objs.size c' _ ctv (I.hok.fresh hsz) hco ⟨pos, hc⟩⟩
/-- behind the making -/
theorem lam_of {K : PySem.W.Frag} {F0 H0 F H : Hp} {σ : L2.St} {ρ : Env} {cl : List (Str × Addr)} {P : Addr} {l : Lam} {Q : VK} (S : Srep K F0 H0 F H σ ρ) (hg : P ∈ Tabs.all) (hn : Tabs.nm P = l.q)
    (q : ∀ f F1 H1, Grow F H F1 H1 → LamRep F1 cl f l → Q (.ref f) H1) : tLamE cl P l σ H Q := by
  obtain ⟨e2, ps, e4, ht, hc⟩ := S.tab _ hg
  rw [hn] at hc
  refine ⟨ps, e4, ht, fun pos cv h => ?_, fun f c' pm ctv ps' hf hc' hfc ht' hps => ?_, fun f c' pm ctv hf hc' hps => ?_⟩
  · obtain ⟨c, h1, h2⟩ := hc pos cv h
    exact ⟨c, h1, S.sub _ _ h2⟩
  · have nPc : P ≠ c' := ne_of_none e4 hc'
    have nPf : P ≠ f := ne_of_none e4 hf
    have g1 := Grow.add (o := LamX.CodeO c' l.q) S.sub hc'
    have F1P : upd F c' (LamX.CodeO c' l.q) P = none := by rw [upd_ne nPc]; exact e2
    have H1P : upd H c' (LamX.CodeO c' l.q) P = some (.tbl ps) := by rw [upd_ne nPc]; exact e4
    have g2 : Grow (upd F c' (LamX.CodeO c' l.q)) (upd H c' (LamX.CodeO c' l.q)) (upd F c' (LamX.CodeO c' l.q)) (upd (upd H c' (LamX.CodeO c' l.q)) P (.tbl ps')) := by
      refine ⟨Ex.refl _, fun b x h => ?_, fun b x h => ?_, fun _ _ _ _ => rfl⟩
      · by_cases hb : b = P
        · subst hb
          rw [H1P] at h
          cases h
          refine .inr ⟨ps, ps', rfl, upd_same, fun _ => ⟨ht', fun pos cv hcv => ?_⟩⟩
          rw [hn]
          rcases hps pos cv hcv with z | z
          · obtain ⟨c, h1, h2⟩ := hc pos cv z
            exact ⟨c, h1, by rw [upd_ne (ne_of_none h2 (fresh_sub S.sub hc'))]; exact h2⟩
          · exact ⟨c', z, upd_same⟩
        · exact .inl (by rw [upd_ne hb]; exact h)
      · rw [upd_ne (ne_of_none h F1P)]
        exact g1.sub b x h
    have hf2 : upd (upd H c' (LamX.CodeO c' l.q)) P (.tbl ps') f = none := by
      rw [upd_ne (Ne.symm nPf), upd_ne hfc]
      exact hf
    have g3 := Grow.add (o := .frz (lamObj cl l pm c' ctv) UO) g2.sub hf2
    exact q f _ _ ((g1.trans g2).trans g3) ⟨pm, ctv, c', upd_same, by rw [upd_ne (Ne.symm hfc), upd_same]⟩
  · obtain ⟨pos, hps⟩ := hps
    obtain ⟨c, h1, h2⟩ := hc pos _ hps
    cases h1
    exact q f _ _ (Grow.add S.sub hf) ⟨pm, ctv, c', upd_same, by rw [upd_ne (ne_of_none h2 (fresh_sub S.sub hf))]; exact h2⟩
/-- lambda: .. as a value of this frame -/
theorem de_lamE {c P : Addr} {l : Lam} {ix : List Nat} (TB : LamX.TabB X.base X.mg c P) (hcode : X.env.code = .ref c) (hq : l.q = X.env.qual ++ "<lambda>") (hg : P ∈ Tabs.all) (hn : Tabs.nm P = l.q) (L : LamX.LamS X.env.scope l.scope) (hdef : defaultsOf l.params X.env = ([], [])) (hf : fitB X.N X.env.scope l.names ix = true) :
    DE X W (.Lambda l.params l.body l.scope pos) (eC (.fn ⟨X.env.cells, X.N, X.env.scope⟩ l ix)) :=
  pe_imp (pe_lam TB hcode hq rfl L hdef) fun σ H Q ⟨F0, H0, F, ρ, S, q⟩ => lam_of S hg hn fun f F1 H1 g1 r => q _ F1 H1 g1 (.fn r hf)
end
section
variable {P : Program} {w : World} {K : PySem.W.Frag} {mg : Str → Option Value} {base : Heap} {X : Cx} {W : WX} {N : List Str} {sc : Scope} {k : Nat} {pos : Pos}
/-- what a maker of lambdas knows of itself: its table, the lambdas' name -/
structure MkC (X : Cx) (T : Addr) (q : Str) : Prop where
  ex : ∃ c, LamX.TabB X.base X.mg c T ∧ X.env.code = .ref c
  hq : q = X.env.qual ++ "<lambda>"
  nm : Tabs.nm T = q
  mem : T ∈ Tabs.all
abbrev frOf (X : Cx) : Fr := ⟨X.env.cells, X.N, X.env.scope⟩
theorem xlam (C : Ctx P w K mg base X W N sc k) {T : Addr} (l : Lam) (ix : List Nat) (M : MkC X T l.q) (L : LamX.lamSB sc l.scope = true) (hf : fitB N sc l.names ix = true) (hdef : ∀ env : PySem.Env, defaultsOf l.params env = ([], []) := by intro _; rfl) : DE X W (.Lambda l.params l.body l.scope pos) (eC (.fn (frOf X) l ix)) := by
  obtain ⟨c, TB, hc⟩ := M.ex
  exact de_lamE TB hc M.hq M.mem M.nm (LamX.lamS_by (by rw [C.hsc]; exact L)) (hdef _) (by rw [C.hN, C.hsc]; exact hf)
end
end DL

set_option Elab.async false
set_option linter.all false
set_option maxRecDepth 100000
set_option maxHeartbeats 2000000
/-! Cells that lambdas captured: told while a callee runs, put aside while the lambda's own body runs. -/
namespace DL
variable [Tabs]
open PySem PySem.Spec PyProof.Rows L2
open Evl (Ex)
def del (H : Hp) (C : List Addr) : Hp := fun a => if a ∈ C then none else H a
/-- H, but G at C -/
def put (G H : Hp) (C : List Addr) : Hp := fun a => if a ∈ C then G a else H a
theorem del_in {H : Hp} {C : List Addr} {a : Addr} (h : a ∈ C) : del H C a = none := if_pos h
theorem del_out {H : Hp} {C : List Addr} {a : Addr} (h : a ∉ C) : del H C a = H a := if_neg h
theorem del_none {H : Hp} {C : List Addr} {a : Addr} (h : H a = none) : del H C a = none := by
  unfold del
  split
  · rfl
  · exact h
theorem put_in {G H : Hp} {C : List Addr} {a : Addr} (h : a ∈ C) : put G H C a = G a := if_pos h
theorem put_out {G H : Hp} {C : List Addr} {a : Addr} (h : a ∉ C) : put G H C a = H a := if_neg h
def CellsIn (F : Hp) (C : List Addr) : Prop := ∀ a ∈ C, ∃ o, F a = some (.frz o UO)
theorem CellsIn.ex {F H : Hp} {C : List Addr} (c : CellsIn F C) (e : Ex F H) : CellsIn H C := fun a ha => by
  obtain ⟨o, h⟩ := c a ha
  exact ⟨o, e _ _ h⟩
theorem CellsIn.nin {F : Hp} {C : List Addr} (c : CellsIn F C) {a : Addr} {u : HO} (h : F a = some u) (n : ∀ o, u ≠ .frz o UO) : a ∉ C := fun ha => by
  obtain ⟨o, e⟩ := c a ha
  rw [h] at e
  exact n o (Option.some.inj e)
theorem CellsIn.out {F : Hp} {C : List Addr} (c : CellsIn F C) {a : Addr} {u : HO} (h : F a = some u) (n : ∀ o, u ≠ .frz o UO) : del F C a = some u := by
  rw [del_out (c.nin h n)]
  exact h
theorem CellsIn.some_out {F : Hp} {C : List Addr} {a : Addr} (c : CellsIn F C) (h : F a = none) : a ∉ C := fun ha => by
  obtain ⟨o, e⟩ := c a ha
  rw [h] at e
  cases e
theorem ex_del {F H : Hp} {C : List Addr} (e : Ex F H) : Ex (del F C) (del H C) := fun a o h => by
  unfold del at h ⊢
  split at h
  · cases h
  · rename_i n
    rw [if_neg n]
    exact e a o h
theorem hok_del {P : Program} {w : World} {H : Hp} {h : Heap} {C : List Addr} (x : HOk P w H h) (c : CellsIn H C) : HOk P w (del H C) h := fun a o e => by
  unfold del at e
  split at e
  · cases e
  · exact (x a o e).stay (fun b u _ q => q) (fun b q => c.out q fun o z => by cases z) fun b xs q => c.out q fun o z => by cases z
theorem hok_put {P : Program} {w : World} {H H' : Hp} {h : Heap} {C : List Addr} (x : HOk P w H' h) (c : CellsIn H C) (free : ∀ a ∈ C, H' a = none) (k : ∀ a ∈ C, ∀ o, H a = some (.frz o UO) → h.get? a = some o) : HOk P w (put H H' C) h := fun a o e => by
  by_cases ha : a ∈ C
  · rw [put_in ha] at e
    obtain ⟨o', e'⟩ := c a ha
    rw [e] at e'
    cases e'
    exact ⟨k a ha o' e, uo_ok (k a ha o' e)⟩
  · rw [put_out ha] at e
    have nin : ∀ b u, H' b = some u → b ∉ C := fun b u q hb => by
      rw [free b hb] at q
      cases q
    exact (x a o e).stay (fun b u _ q => q) (fun b q => by rw [put_out (nin b _ q)]; exact q) fun b xs q => by rw [put_out (nin b _ q)]; exact q
/-- a call's end, the cells put back -/
theorem ce_put {outer : List PySem.Env} {P : Program} {w : World} {H : Hp} {s s' : Shared} {Q Q' : VK} {u : Value} {C : List Addr} (hok : HOk P w H s.heap) (frf : ∀ b ∈ frs outer, H b = none) (c : CellsIn H C)
    (q : ∀ v H', (∀ a ∈ C, H' a = none) → Q' v H' → Q v (put H H' C)) (h : CE outer P w (del H C) s Q' u s') : CE outer P w H s Q u s' := by
  obtain ⟨v, H', os, bare, un, hok', r, hq⟩ := h
  have free : ∀ a ∈ C, H' a = none := fun a ha => by
    obtain ⟨o, e⟩ := c a ha
    obtain ⟨e1, _⟩ := hok a _ e
    exact un.free a o e1 (del_in ha) (by simp)
  have keep : ∀ a ∈ C, ∀ o, H a = some (.frz o UO) → s'.heap.get? a = some o := fun a ha o e => un.keep a o (hok a _ e).1 (del_in ha) (fun z => by rw [frf a z] at e; cases e) (by simp)
  refine ⟨v, put H H' C, os, bare, ⟨fun b o hb hn hf hx => un.keep b o hb (del_none hn) hf hx, fun b o hb hn hf hx => un.slot b o hb (del_none hn) hf hx, fun b o hb hn hx => ?_, un.there, fun b xs hb => ?_, fun b o u hb => ?_, fun b ps hb => ?_⟩, hok_put hok' c free keep, r, q v H' free hq⟩
  · rw [put_out (c.some_out hn)]
    exact un.free b o hb (del_none hn) hx
  · rw [put_out (c.nin hb fun o z => by cases z)]
    exact un.tups b xs (c.out hb fun o z => by cases z)
  · by_cases hc : b ∈ C
    · rw [put_in hc]
      exact hb
    · rw [put_out hc]
      exact un.frzs b o u (by rw [del_out hc]; exact hb)
  · rw [put_out (c.nin hb fun o z => by cases z)]
    exact un.tbls b ps (c.out hb fun o z => by cases z)
/-- .. the end by an exception -/
theorem cx_put {outer : List PySem.Env} {P : Program} {w : World} {H : Hp} {s s' : Shared} {E E' : XK} {u : Value} {C : List Addr} (hok : HOk P w H s.heap) (frf : ∀ b ∈ frs outer, H b = none) (c : CellsIn H C)
    (q : ∀ cls d H', (∀ a ∈ C, H' a = none) → E' cls d H' → E cls d (put H H' C)) (h : L2.CX P w outer (del H C) s E' u s') : L2.CX P w outer H s E u s' := by
  obtain ⟨a, B, H', cls, d, rfl, fl, hok', ub, na, os, ag, hE⟩ := h
  have free : ∀ a ∈ C, H' a = none := fun a ha => by
    obtain ⟨o, e⟩ := c a ha
    obtain ⟨e1, _⟩ := hok a _ e
    exact ub.free a o e1 (del_in ha)
  have keep : ∀ a ∈ C, ∀ o, H a = some (.frz o UO) → B.get? a = some o := fun a ha o e => ub.keep a o (hok a _ e).1 (del_in ha) (fun z => by rw [frf a z] at e; cases e)
  refine ⟨a, B, put H H' C, cls, d, rfl, fl, hok_put hok' c free keep, ⟨fun b o hb hn hf => ub.keep b o hb (del_none hn) hf, ub.slot, fun b o hb hn => ?_, ub.there, fun b xs hb => ?_, fun b o u hb => ?_, fun b ps hb => ?_⟩, ?_, os, ag, q cls d H' free hE⟩
  · rw [put_out (c.some_out hn)]
    exact ub.free b o hb (del_none hn)
  · rw [put_out (c.nin hb fun o z => by cases z)]
    exact ub.tups b xs (c.out hb fun o z => by cases z)
  · by_cases hc : b ∈ C
    · rw [put_in hc]
      exact hb
    · rw [put_out hc]
      exact ub.frzs b o u (by rw [del_out hc]; exact hb)
  · rw [put_out (c.nin hb fun o z => by cases z)]
    exact ub.tbls b ps (c.out hb fun o z => by cases z)
  · have nC : a ∉ C := fun ha => by
      obtain ⟨o, e⟩ := c a ha
      have z := keep a ha o e
      rw [fl.2.1] at z
      cases z
    rw [put_out nC]
    exact na
/-- what the lambda's body did, told with the cells again -/
theorem grow_put {F H F1 H1 : Hp} {C : List Addr} (c : CellsIn F C) (s : Ex F H) (g : Grow (del F C) (del H C) F1 H1) (free : ∀ a ∈ C, H1 a = none) : Grow F H (put F F1 C) (put H H1 C) ∧ Ex F1 (put F F1 C) := by
  have freeF : ∀ a ∈ C, F1 a = none := fun a ha => fresh_sub g.sub (free a ha)
  have nin : ∀ b u, F1 b = some u → b ∉ C := fun b u q hb => by
    rw [freeF b hb] at q
    cases q
  have x1 : Ex F1 (put F F1 C) := fun b u h => by rw [put_out (nin b u h)]; exact h
  have x2 : Ex F (put F F1 C) := fun b u h => by
    by_cases hb : b ∈ C
    · rw [put_in hb]
      exact h
    · rw [put_out hb]
      exact g.ef b u (by rw [del_out hb]; exact h)
  refine ⟨⟨x2, fun b u h => ?_, fun b u h => ?_, fun b u h n => ?_⟩, x1⟩
  · by_cases hb : b ∈ C
    · rw [put_in hb]
      exact .inl h
    · rw [put_out hb]
      rcases g.eh b u (by rw [del_out hb]; exact h) with z | ⟨ps, ps', z1, z2, z3⟩
      · exact .inl z
      · refine .inr ⟨ps, ps', z1, z2, fun t => (z3 ⟨t.1, fun pos cv hc => ?_⟩).ex x1⟩
        obtain ⟨c', y1, y2⟩ := t.2 pos cv hc
        exact ⟨c', y1, c.out y2 fun o z => by unfold LamX.CodeO at z; cases z⟩
  · by_cases hb : b ∈ C
    · rw [put_in hb] at h ⊢
      exact s b u h
    · rw [put_out hb] at h ⊢
      exact g.sub b u h
  · by_cases hb : b ∈ C
    · rw [put_in hb]
    · rw [put_out hb, g.new b u (by rw [del_out hb]; exact h) n, del_out hb]
/-! ### data without lambdas -/
mutual
def noC : D → Bool
  | .clo _ _ => false
  | .fn _ _ _ => false
  | .tup l => noCs l
  | .lst l => noCs l
  | .dI _ vs => noCs vs
  | .dT _ vs => noCs vs
  | .ins _ _ vs => noCs vs
  | _ => true
def noCs : List D → Bool
  | [] => true
  | d :: l => noC d && noCs l
end
mutual
theorem Rep.del {K : PySem.W.Frag} {F : Hp} {C : List Addr} (c : CellsIn F C) : ∀ {v : V} {d : D}, Rep K F v d → noC d = true → Rep K (DL.del F C) v d
  | _, _, .non, _ => .non
  | _, _, .bl b, _ => .bl b
  | _, _, .int i, _ => .int i
  | _, _, .str x, _ => .str x
  | _, _, .ty n, _ => .ty n
  | _, _, .ref a, _ => .ref a
  | _, _, .tup h r, hn => .tup (c.out h fun o z => by cases z) (Reps.del c r (by simpa [noC] using hn))
  | _, _, .lst h r, hn => .lst (c.out h fun o z => by cases z) (Reps.del c r (by simpa [noC] using hn))
  | _, _, .scr h, _ => .scr (by
    rcases h with (h | ⟨o, h⟩) | h
    · exact .inl (.inl (c.out h fun o z => by cases z))
    · exact .inl (.inr ⟨o, c.out h fun o z => by cases z⟩)
    · exact .inr h)
  | _, _, .dI h k r, hn => .dI (c.out h fun o z => by cases z) k (Reps.del c r (by simpa [noC] using hn))
  | _, _, .dT h k r, hn => .dT (c.out h fun o z => by cases z) k (Reps.del c r (by simpa [noC] using hn))
  | _, _, .any v, _ => .any v
  | _, _, .clo _ _ _ _, hn => by simp [noC] at hn
  | _, _, .fn _ _, hn => by simp [noC] at hn
  | _, _, .ins h i k r, hn => .ins (c.out h fun o z => by cases z) (c.out i fun o z => by cases z) k (Reps.del c r (by simpa [noC] using hn))
theorem Reps.del {K : PySem.W.Frag} {F : Hp} {C : List Addr} (c : CellsIn F C) : ∀ {vs : List V} {ds : List D}, Reps K F vs ds → noCs ds = true → Reps K (DL.del F C) vs ds
  | _, _, .nil, _ => .nil
  | _, _, .cons r t, hn => by
    rw [noCs, Bool.and_eq_true] at hn
    exact .cons (Rep.del c r hn.1) (Reps.del c t hn.2)
end
end DL

set_option Elab.async false
set_option linter.all false
set_option maxRecDepth 100000
set_option maxHeartbeats 2000000
/-! A lambda that a def got is called there. -/
namespace DL
variable [Tabs]
open PySem PySem.Spec PyProof.Rows L2
open Evl (Ex)
/-- no parameter, no name of its own; the captured names -/
def lamOkB (l : Lam) : Bool :=
  decide (l.scope.kind = .function) && !l.scope.isCoroutine && !l.scope.isGenerator && l.scope.names.all fun y => !decide (y.2 = .local) && !decide (y.2 = .cell) && (!decide (y.2 = .free) || decide (y.1 ∈ l.names))
structure LamOk (l : Lam) : Prop where
  kind : l.scope.kind = .function
  co : l.scope.isCoroutine = false
  gen : l.scope.isGenerator = false
  own : ∀ y ∈ l.scope.names, y.2 ≠ .local ∧ y.2 ≠ .cell
  free : ∀ y ∈ l.scope.names, y.2 = .free → y.1 ∈ l.names
theorem lamOk_by {l : Lam} (h : lamOkB l = true) : LamOk l := by
  unfold lamOkB at h
  simp only [Bool.and_eq_true, Bool.or_eq_true, Bool.not_eq_true', decide_eq_true_eq, decide_eq_false_iff_not, List.all_eq_true] at h
  obtain ⟨⟨⟨h1, h2⟩, h3⟩, h4⟩ := h
  refine ⟨h1, h2, h3, fun y hy => (h4 y hy).1, fun y hy e => ?_⟩
  rcases (h4 y hy).2 with z | z
  · exact absurd e z
  · exact z
abbrev lamEnvD (l : Lam) (cl : List (Str × Addr)) (L f c' : Addr) : PySem.Env := PySem.W.envX l.q l.scope L f (.ref c') (cloFrom cl l.scope.names [])
/-- the place of the lambda's body -/
def lamCxD (X : Cx) (outer : List PySem.Env) (s : Shared) (H : Hp) (E : XK) (l : Lam) (cl : List (Str × Addr)) (f c' : Addr) : Cx where
  prog := X.prog
  w := X.w
  K := X.K
  mg := X.mg
  base := X.base
  A := X.A.deeper (lamEnvD l cl s.heap.objs.size f c')
  N := l.names
  s_0 := s
  H_0 := H
  env := lamEnvD l cl s.heap.objs.size f c'
  outer := outer
  stack := lamEnvD l cl s.heap.objs.size f c' :: outer
  ex := []
  fn := fun _ => false
  calm := true
  pn := []
  xe := fun e s' => wpAny (model X.prog X.w) (X.A.deeper (lamEnvD l cl s.heap.objs.size f c')) (leaving (lamEnvD l cl s.heap.objs.size f c') e) (fun _ s'' => L2.CX X.prog X.w outer H s E e s'') (fun e' s'' => L2.CX X.prog X.w outer H s E e' s'') s'
theorem clo_look {cl : List (Str × Addr)} {names : List (Str × NameKind)} {y : Str} {c : Addr} (has : ∀ y ∈ names, y.2 = .free → ∃ c, cl.lookup y.1 = some c) (e : (cloFrom cl names []).lookup y = some c) : cl.lookup y = some c := by
  rcases cloFrom_mem (PySem.mem_of_lookup e) with hm | ⟨h1, h2⟩
  · cases hm
  · obtain ⟨c1, hc⟩ := has _ h1 rfl
    have hc : cl.lookup y = some c1 := hc
    have e2 : c = c1 := by
      rw [h2, hc] <;> rfl
    rw [e2]
    exact hc
theorem start_get {N : List Str} {vs : List V} {i : Nat} {v : V} (h2 : (L2.start N vs)[i]? = some (some v)) : vs[i]? = some v := by
  unfold L2.start at h2
  by_cases hi : i < vs.length
  · rw [List.getElem?_append_left (by simpa using hi), List.getElem?_map] at h2
    cases e : vs[i]? with
    | none => rw [e] at h2; cases h2
    | some a => rw [e] at h2; cases h2; rfl
  · rw [List.getElem?_append_right (by simpa using hi)] at h2
    rw [List.getElem?_replicate] at h2
    split at h2 <;> cases h2
theorem lam_startD {X : Cx} {outer : List PySem.Env} {s1 : Shared} {HZ : Hp} {E : XK} {l : Lam} {cl : List (Str × Addr)} {f c' : Addr} {vs : List V} {h₁ : Heap} {tk : Nat} (L : LamOk l) (e0 : Env0 X.prog X.w X.K X.mg X.base X.A outer s1 HZ) (hd : X.A.handled = none)
    (inj : ∀ x y c, cl.lookup x = some c → cl.lookup y = some c → x = y) (len : l.names.length = vs.length)
    (hc : ∀ (i : Nat) y v, l.names[i]? = some y → vs[i]? = some v → ∃ (c : Addr) (o : Obj) (u : Value), cl.lookup y = some c ∧ s1.heap.get? c = some o ∧ HZ c = none ∧ o.data = .cell (some u) ∧ RelV v u)
    (hns : h₁.Ns s1.heap.objs.size fun y => ([] : List (Str × Value)).reverse.lookup y) (kp : ∀ b o, s1.heap.get? b = some o → h₁.get? b = some o) :
    Inv (lamCxD X outer s1 HZ E l cl f c') [] (L2.start l.names vs) HZ { s1 with heap := h₁, toks := tk } := by
  have cellOf : ∀ y ∈ l.names, ∃ (c : Addr) (o : Obj) (u : Value), cl.lookup y = some c ∧ s1.heap.get? c = some o ∧ HZ c = none ∧ o.data = .cell (some u) := fun y hy => by
    obtain ⟨i, hi, e⟩ := List.mem_iff_getElem.mp hy
    obtain ⟨c, o, u, h1, h2, h3, h4, _⟩ := hc i y (vs[i]'(by omega)) (by rw [List.getElem?_eq_getElem hi, e]) (List.getElem?_eq_getElem _)
    exact ⟨c, o, u, h1, h2, h3, h4⟩
  have has : ∀ y ∈ l.scope.names, y.2 = .free → ∃ c, cl.lookup y.1 = some c := fun y hy e => by
    obtain ⟨c, _, _, h1, _⟩ := cellOf y.1 (L.free y hy e)
    exact ⟨c, h1⟩
  have look : ∀ {y}, l.scope.names.lookup y = some .free → ∃ c, (cloFrom cl l.scope.names []).lookup y = some c := fun {y} hl => by
    have hy : (y, NameKind.free) ∈ l.scope.names := PySem.mem_of_lookup hl
    exact mem_lookup (cloFrom_has (cells := cl) (acc := []) hy)
  have freeOf : ∀ {y c}, (cloFrom cl l.scope.names []).lookup y = some c → y ∈ l.names := fun {y c} e => by
    rcases cloFrom_mem (PySem.mem_of_lookup e) with hm | ⟨h1, h2⟩
    · cases hm
    · exact L.free _ h1 rfl
  have noA : ∀ b : Addr, b ∉ (lamCxD X outer s1 HZ E l cl f c').ex := fun b z => absurd (show b ∈ ([] : List Addr) from z) (by simp)
  refine ⟨⟨e0.mod, L.kind, rfl, rfl, Nat.le_refl _, fun y z c e1 e2 => inj y z c (clo_look has e1) (clo_look has e2), fun y hy => ?_, fun y c z _ => ?_, fun _ => hd, Around.frames_deeper e0.frames, .inr ⟨rfl, rfl⟩, fun b z => absurd z (noA b), e0.bs, e0.bsz, fun b _ _ => noA b,
      fun b z => absurd z (noA b), e0.funs, e0.frf⟩,
    rfl, e0.bare, Un.kept kp, ⟨_, hns, fun i y v e1 e2 e3 => ?_⟩, fun y c e => ?_, e0.hok.fresh (Nat.le_refl _), fun y c e => ?_, fun q hq => absurd (show q ∈ ([] : List (Addr × Obj)) ++ [] from hq) (by simp), e0.hok.kept kp, ?_⟩
  · have hy : l.scope.names.lookup y = some .cell ∨ l.scope.names.lookup y = some .free := hy
    rcases hy with hy | hy
    · exact absurd rfl (L.own _ (PySem.mem_of_lookup hy)).2
    · exact look hy
  · have z : false = true := z
    cases z
  · have e3 : Vis l.scope y := e3
    rcases e3 with k | k | k
    · exact absurd rfl (L.own _ (PySem.mem_of_lookup k)).1
    · exact absurd rfl (L.own _ (PySem.mem_of_lookup k)).2
    · obtain ⟨c, o, u, h1, h2, h3, h4, h5⟩ := hc i y v e1 (start_get e2)
      obtain ⟨c2, hl2⟩ := look k
      have := clo_look has hl2
      rw [h1] at this
      cases this
      exact ⟨u, h5, .inr ⟨.inr k, c, hl2, o, kp _ _ h2, h4⟩⟩
  · obtain ⟨c2, o, u, h1, h2, h3, h4⟩ := cellOf y (freeOf e)
    have := clo_look has e
    rw [h1] at this
    cases this
    exact ⟨_, o, kp _ _ h2, h4⟩
  · obtain ⟨c2, o, u, h1, h2, h3, h4⟩ := cellOf y (freeOf e)
    have := clo_look has e
    rw [h1] at this
    cases this
    exact h3
  · show _ = l.names.length
    unfold L2.start
    rw [List.length_append, List.length_map, List.length_replicate]
    omega
/-- what a lambda does -/
structure LamDen (P : Program) (w : World) (K : PySem.W.Frag) (mg : Str → Option Value) (base : Heap) (k : Nat) (l : Lam) (f : List D → R D) : Prop where
  ok : LamOk l
  nd : l.names.Nodup
  bind : ∀ (q : Str) (cl : List (Str × Addr)) (pm cv ctv : Value), bindArgs (PySem.W.kla_fn "<lambda>" q l.params l.body l.scope cl pm cv ctv) ⟨[], []⟩ = pure []
  body : ∃ fb : Env → R D, (∀ ds, f ds = fb (startE l.names.length ds)) ∧ ∀ (Y : Cx) (W : WX), Ctx P w K mg base Y W l.names l.scope k → DE Y W l.body fb
def eLam (LT : Lam → List D → R D) (i : Nat) : Env → R D := fun ρ => match ρ[i]? with
  | some (.val (.clo l ds)) => if noCs ds = true then LT l ds else .bad
  | _ => .bad
def cellsOf (cl : List (Str × Addr)) (ys : List Str) : List Addr := ys.filterMap fun y => cl.lookup y
theorem cellsIn_of {F : Hp} {cl : List (Str × Addr)} {ys : List Str} {vs : List V} (c : CellsRep F cl ys vs) : CellsIn F (cellsOf cl ys) := fun a ha => by
  obtain ⟨y, hy, e⟩ := List.mem_filterMap.mp ha
  obtain ⟨i, hi, ei⟩ := List.mem_iff_getElem.mp hy
  have hl := c.len
  obtain ⟨c', o, u, h1, h2, h3, h4⟩ := c.at_ i y (vs[i]'(by omega)) (by rw [List.getElem?_eq_getElem hi, ei]) (List.getElem?_eq_getElem _)
  rw [h1] at e
  cases e
  exact ⟨o, h2⟩
theorem cellsOf_mem {cl : List (Str × Addr)} {ys : List Str} {y : Str} {c : Addr} (h : y ∈ ys) (e : cl.lookup y = some c) : c ∈ cellsOf cl ys := List.mem_filterMap.mpr ⟨y, h, e⟩
theorem eLam_some {LT : Lam → List D → R D} {i : Nat} {ρ : Env} {r : R D} (h : eLam LT i ρ = r) (n : r ≠ .bad) : ∃ l ds, ρ[i]? = some (.val (.clo l ds)) ∧ noCs ds = true ∧ LT l ds = r := by
  unfold eLam at h
  split at h
  · rename_i l ds e
    split at h
    · rename_i hn
      exact ⟨l, ds, e, hn, h⟩
    · exact absurd h.symm n
  · exact absurd h.symm n
theorem TabRep.del {F H : Hp} {P : Addr} {C : List Addr} (t : TabRep F H P) (c : CellsIn F C) (s : Ex F H) : TabRep (DL.del F C) (DL.del H C) P := by
  obtain ⟨ps, e, t1, t2⟩ := t.ex
  refine ⟨del_none t.f, ps, (c.ex s).out e (fun o z => by cases z), t1, fun pos cv h => ?_⟩
  obtain ⟨c', y1, y2⟩ := t2 pos cv h
  exact ⟨c', y1, c.out y2 fun o z => by unfold LamX.CodeO at z; cases z⟩
/-- what is wanted of the lambda's body -/
def lamQ (K : PySem.W.Frag) (F H : Hp) (r : R D) : VK := fun v H' => match r with
  | .ok d => ∃ F1, Grow F H F1 H' ∧ Rep K F1 v d
  | _ => False
def lamE (F H : Hp) (r : R D) : XK := fun cls dd H' => match r with
  | .exc c => cls = .ref c ∧ dd = none ∧ ∃ F1, Grow F H F1 H'
  | _ => False
section
variable {X : Cx} {W : WX} {k i : Nat} {a : Str} {p1 p2 : Pos}
theorem lam_run {l : Lam} {fl : List D → R D} {pins : List (Addr × Obj)} {σ : L2.St} {F H : Hp} {s1 : Shared} {f : Addr} {cl : List (Str × Addr)} {vs : List V} {ds : List D} (tb : ∀ P ∈ Tabs.all, TabRep F H P) (LD : LamDen X.prog X.w X.K X.mg X.base k l fl) (hr : Room (k + 1) X.A) (I1 : Inv X pins σ H s1) (sub : Ex F H)
    (hl : LamRep F cl f l) (inj : ∀ x y c, cl.lookup x = some c → cl.lookup y = some c → x = y) (hc : CellsRep F cl l.names vs) (r : Reps X.K F vs ds) (hn : noCs ds = true) (nb : fl ds ≠ .bad) :
    codeAny (model X.prog X.w) X.A (.call (.ref f) ⟨[], []⟩) (CR (L2.CX X.prog X.w) X.stack X.prog X.w (del H (cellsOf cl l.names)) s1 (lamQ X.K (del F (cellsOf cl l.names)) (del H (cellsOf cl l.names)) (fl ds)) (lamE (del F (cellsOf cl l.names)) (del H (cellsOf cl l.names)) (fl ds))) s1 := by
  obtain ⟨pm, ctv, c', h1, h2⟩ := hl
  have cF := cellsIn_of hc
  have cH := cF.ex sub
  have of1 : s1.heap.get? f = some (lamObj cl l pm c' ctv) := (I1.hok f _ (sub _ _ h1)).1
  obtain ⟨⟨oc, ws, t, hoc, hdc, hvc⟩, _, _⟩ := I1.hok c' _ (sub _ _ h2)
  have e0' := I1.env0
  have e0 : Env0 X.prog X.w X.K X.mg X.base X.A X.stack s1 (del H (cellsOf cl l.names)) := ⟨e0'.frames, e0'.mod, fun b o e => ⟨(e0'.bs b o e).1, del_none (e0'.bs b o e).2⟩, e0'.bsz, e0'.funs, fun b hb => del_none (e0'.frf b hb), hok_del e0'.hok cH, e0'.bare⟩
  have L := LD.ok
  refine PySem.W.kla_callFunE hr.depth of1 rfl L.co L.gen rfl ⟨c', oc, ws, t, rfl, hoc, hdc, hvc⟩ ?_
  rw [LD.bind]
  refine wpAny_pure (wpAny_newFunctionEnv (fun y hy => (L.own y hy).2) (fun y hy => absurd hy (by simp)) (fun h₁ hns hsb => ⟨I1.nolimit.fresh _ hsb, ?_⟩) L.kind)
  show codeAny _ _ (.expr l.body (lamEnvD l cl s1.heap.objs.size f c')) _ _
  have kp : ∀ b o, s1.heap.get? b = some o → h₁.get? b = some o := fun b o e => hsb.extBut b o (Nat.ne_of_lt (Heap.lt_size e)) (Heap.get?_push_of_some _ e)
  have J : Inv (lamCxD X X.stack s1 (del H (cellsOf cl l.names)) (lamE (del F (cellsOf cl l.names)) (del H (cellsOf cl l.names)) (fl ds)) l cl f c') [] (L2.start l.names vs) (del H (cellsOf cl l.names)) { s1 with heap := h₁, toks := s1.toks + ([] : List (Str × Value)).length } := by
    refine lam_startD L e0 hr.hd inj hc.len (fun i y v e1 e2 => ?_) hns kp
    obtain ⟨c, o, u, z1, z2, z3, z4⟩ := hc.at_ i y v e1 e2
    exact ⟨c, o, u, z1, (I1.hok c _ (sub _ _ z2)).1, del_in (cellsOf_mem (List.mem_of_getElem? e1) z1), z3, z4⟩
  obtain ⟨fb, hfb, hb⟩ := LD.body
  have C : Ctx X.prog X.w X.K X.mg X.base (lamCxD X X.stack s1 (del H (cellsOf cl l.names)) (lamE (del F (cellsOf cl l.names)) (del H (cellsOf cl l.names)) (fl ds)) l cl f c') (fun cls d _ H' => lamE (del F (cellsOf cl l.names)) (del H (cellsOf cl l.names)) (fl ds) cls d H') l.names l.scope k :=
    ⟨rfl, rfl, rfl, rfl, rfl, rfl, rfl, LD.nd, rfl, hr.deeper _, takes_of rfl rfl rfl rfl⟩
  refine PySem.W.kla_codeExpr (wpAny_mono ((hb _ _ C).run [] _ _ _ (lamQ X.K (del F (cellsOf cl l.names)) (del H (cellsOf cl l.names)) (fl ds)) J ?_) (fun v s' hq => ?_) fun e s' hq => hq)
  · refine ⟨del F (cellsOf cl l.names), del H (cellsOf cl l.names), del F (cellsOf cl l.names), startE l.names.length ds, start_rep (ex_del sub) (fun P h => (tb P h).del cF sub) (r.del cF hn), ?_⟩
    rw [← hfb ds]
    cases e : fl ds with
    | bad => exact absurd e nb
    | ok d => exact fun v F' H' g r => ⟨F', g, r⟩
    | exc c => exact fun F' H' g => ⟨rfl, rfl, F', g⟩
  · obtain ⟨w', H', J', rv, q⟩ := hq
    exact ⟨w', H', J'.os, J'.bare, J'.base, J'.hok, rv, q⟩
theorem de_lam {LT : Lam → List D → R D} (hT : ∀ l ds, LT l ds ≠ .bad → LamDen X.prog X.w X.K X.mg X.base k l (LT l)) (hr : Room (k + 1) X.A) (tk : Takes X W) (hN : X.N[i]? = some a) (hv : Vis X.env.scope a) (hd : (a == ("__debug__" : Str)) = false := by decide) (hcd : (a == ("__classdict__" : Str)) = false := by decide) :
    DE X W (.Call (.Name a p1) [] [] p2) (eLam LT i) := by
  refine ⟨fun pins s σ H Q I h => ?_⟩
  obtain ⟨F0, H0, F, ρ, S, q⟩ := h
  have nb : eLam LT i ρ ≠ .bad := fun z => by rw [z] at q; exact q
  obtain ⟨l, ds, e1, hn, er⟩ := eLam_some rfl nb
  rw [← er] at q nb
  have LD := hT l ds nb
  obtain ⟨v0, hs, r⟩ := S.val i _ e1
  cases r with
  | clo hl inj hc r =>
    rename_i f cl vs
    refine wpAny_Call_Name_kw (thn ((pe_var (pos := p1) (i := i) hN hv hd hcd).run pins s σ H (fun v H1 => v = .ref f ∧ H1 = H) I ⟨.ref f, hs, rfl, rfl⟩) fun u s1 ⟨v, H1, I1, r1, q1⟩ => ?_)
    obtain ⟨ev, eH⟩ := q1
    subst ev
    rw [eH] at I1
    obtain rfl : u = Value.ref f := r1
    have cF := cellsIn_of hc
    have cH := cF.ex S.sub
    obtain ⟨pm, ctv, c', h1, h2⟩ := id hl
    have of1 : s1.heap.get? f = some (lamObj cl l pm c' ctv) := (I1.hok f _ (S.sub _ _ h1)).1
    refine PySem.W.callWith_F0 ⟨_, _, _, _, of1⟩ ?_
    refine wpAny_call (codeAny_mono (lam_run S.tab LD hr I1 S.sub hl inj hc r hn nb) fun r s' hq => ?_)
    cases r with
    | error e =>
      refine tk e s' (XE.of_call I1 (E := fun cls d H' => W cls d σ H') (fun cls d H' h => h) (cx_put I1.hok I1.env0.frf cH (fun cls d H' free hE => ?_) hq))
      cases eq : LT l ds with
      | bad => exact absurd eq nb
      | ok d => rw [eq] at hE; exact hE.elim
      | exc c =>
        rw [eq] at hE q
        obtain ⟨rfl, rfl, F1, g⟩ := hE
        exact q _ _ (grow_put cF S.sub g free).1
    | ok fl =>
      cases fl with
      | ret u =>
        refine I1.after (ce_put I1.hok I1.env0.frf cH (fun v H' free hQ => ?_) hq)
        cases eq : LT l ds with
        | bad => exact absurd eq nb
        | exc c => rw [eq] at hQ; exact hQ.elim
        | ok d =>
          rw [eq] at hQ q
          obtain ⟨F1, g, r1⟩ := hQ
          have gp := grow_put cF S.sub g free
          exact q v _ _ gp.1 (r1.ex gp.2)
      | next => exact False.elim hq
      | brk => exact False.elim hq
      | cont => exact False.elim hq
end
end DL

set_option Elab.async false
set_option linter.all false
set_option maxRecDepth 100000
set_option maxHeartbeats 2000000
/-! A def called with lambdas of this frame: the cells that they captured are told for that while. -/
namespace DL
variable [Tabs]
open PySem PySem.Spec PyProof.Rows L2
open Evl (Ex)
def tel (h : Heap) (F : Hp) (C : List Addr) : Hp := fun a => if a ∈ C then (h.get? a).map (fun o => .frz o UO) else F a
theorem tel_in {h : Heap} {F : Hp} {C : List Addr} {a : Addr} {o : Obj} (ha : a ∈ C) (e : h.get? a = some o) : tel h F C a = some (.frz o UO) := by
  unfold tel
  rw [if_pos ha, e]
  rfl
theorem tel_out {h : Heap} {F : Hp} {C : List Addr} {a : Addr} (ha : a ∉ C) : tel h F C a = F a := if_neg ha
/-- these may be told -/
structure Tell (base : Heap) (outer : List PySem.Env) (H : Hp) (h : Heap) (C : List Addr) : Prop where
  ob : ∀ a ∈ C, ∃ o, h.get? a = some o
  free : ∀ a ∈ C, H a = none
  nofr : ∀ a ∈ C, a ∉ frs outer
  nobase : ∀ a ∈ C, base.get? a = none
section
variable {P : Program} {w : World} {K : PySem.W.Frag} {mg : Str → Option Value} {base : Heap} {outer : List PySem.Env} {F H F1 H1 : Hp} {h : Heap} {C : List Addr}
theorem Tell.nin (t : Tell base outer H h C) {a : Addr} {u : HO} (e : H a = some u) : a ∉ C := fun ha => by
  rw [t.free a ha] at e
  cases e
theorem Tell.exF (t : Tell base outer H h C) (s : Ex F H) : Ex F (tel h F C) := fun a o e => by
  rw [tel_out (t.nin (s a o e))]
  exact e
theorem Tell.sub (t : Tell base outer H h C) (s : Ex F H) : Ex (tel h F C) (tel h H C) := fun a o e => by
  unfold tel at e ⊢
  split at e
  · rename_i ha
    rw [if_pos ha]
    exact e
  · rename_i ha
    rw [if_neg ha]
    exact s a o e
theorem Tell.hok (t : Tell base outer H h C) (x : HOk P w H h) : HOk P w (tel h H C) h := fun a o e => by
  by_cases ha : a ∈ C
  · obtain ⟨ob, e1⟩ := t.ob a ha
    rw [tel_in ha e1] at e
    cases e
    exact ⟨e1, uo_ok e1⟩
  · rw [tel_out ha] at e
    exact (x a o e).stay (fun b u _ q => q) (fun b q => by rw [tel_out (t.nin q)]; exact q) fun b xs q => by rw [tel_out (t.nin q)]; exact q
theorem Tell.env0 {A : Around} {s : Shared} (t : Tell base outer H s.heap C) (e0 : Env0 P w K mg base A outer s H) : Env0 P w K mg base A outer s (tel s.heap H C) := by
  refine ⟨e0.frames, e0.mod, fun b o e => ⟨(e0.bs b o e).1, ?_⟩, e0.bsz, e0.funs, fun b hb => ?_, t.hok e0.hok, e0.bare⟩
  · rw [tel_out fun z => by rw [t.nobase b z] at e; cases e]
    exact (e0.bs b o e).2
  · rw [tel_out fun z => t.nofr b z hb]
    exact e0.frf b hb
theorem Tell.tab (t : Tell base outer H h C) (s : Ex F H) {T : Addr} (r : TabRep F H T) : TabRep (tel h F C) (tel h H C) T := by
  obtain ⟨ps, e, ht⟩ := r.ex
  have n := t.nin e
  exact ⟨by rw [tel_out n]; exact r.f, ps, by rw [tel_out n]; exact e, ht.ex (t.exF s)⟩
/-- a call's end, the cells no longer told -/
theorem Tell.ce {s s' : Shared} {Q Q' : VK} {u : Value} (t : Tell base outer H s.heap C) (q : ∀ v H', (∀ a ∈ C, ∃ o, s.heap.get? a = some o ∧ H' a = some (.frz o UO)) → Q' v H' → Q v (del H' C)) (c : CE outer P w (tel s.heap H C) s Q' u s') : CE outer P w H s Q u s' := by
  obtain ⟨v, H', os, bare, un, hok', r, hq⟩ := c
  have told : ∀ a ∈ C, ∃ o, s.heap.get? a = some o ∧ H' a = some (.frz o UO) := fun a ha => by
    obtain ⟨o, e⟩ := t.ob a ha
    exact ⟨o, e, un.frzs a o UO (tel_in ha e)⟩
  have kept : ∀ a ∈ C, ∀ o, s.heap.get? a = some o → s'.heap.get? a = some o := fun a ha o e => by
    obtain ⟨o', e1, e2⟩ := told a ha
    rw [e] at e1
    cases e1
    exact (hok' a _ e2).1
  have cin : CellsIn H' C := fun a ha => by
    obtain ⟨o, _, e⟩ := told a ha
    exact ⟨o, e⟩
  refine ⟨v, del H' C, os, bare, ⟨fun b o hb hn hf hx => ?_, fun b o hb hn hf hx => ?_, fun b o hb hn hx => ?_, un.there, fun b xs hb => ?_, fun b o u hb => ?_, fun b ps hb => ?_⟩, hok_del hok' cin, r, q v H' told hq⟩
  · by_cases hc : b ∈ C
    · exact kept b hc o hb
    · exact un.keep b o hb (by rw [tel_out hc]; exact hn) hf hx
  · by_cases hc : b ∈ C
    · exact ⟨o.slots, kept b hc o hb⟩
    · exact un.slot b o hb (by rw [tel_out hc]; exact hn) hf hx
  · by_cases hc : b ∈ C
    · exact del_in hc
    · exact del_none (un.free b o hb (by rw [tel_out hc]; exact hn) hx)
  · rw [del_out (t.nin hb)]
    exact un.tups b xs (by rw [tel_out (t.nin hb)]; exact hb)
  · rw [del_out (t.nin hb)]
    exact un.frzs b o u (by rw [tel_out (t.nin hb)]; exact hb)
  · rw [del_out (t.nin hb)]
    exact un.tbls b ps (by rw [tel_out (t.nin hb)]; exact hb)
theorem Tell.cin (t : Tell base outer H h C) (e : Ex (tel h F C) F1) : CellsIn F1 C := fun a ha => by
  obtain ⟨o, e1⟩ := t.ob a ha
  exact ⟨o, e a _ (tel_in ha e1)⟩
theorem Tell.grow (t : Tell base outer H h C) (s : Ex F H) (g : Grow (tel h F C) (tel h H C) F1 H1) : Grow F H (del F1 C) (del H1 C) := by
  have cF := t.cin g.ef
  refine ⟨fun b o e => ?_, fun b u e => ?_, ex_del g.sub, fun b o e n => ?_⟩
  · have nb := t.nin (s b o e)
    rw [del_out nb]
    exact g.ef b o (by rw [tel_out nb]; exact e)
  · have nb := t.nin e
    rcases g.eh b u (by rw [tel_out nb]; exact e) with z | ⟨ps, ps', z1, z2, z3⟩
    · exact .inl (by rw [del_out nb]; exact z)
    · refine .inr ⟨ps, ps', z1, by rw [del_out nb]; exact z2, fun tb => ?_⟩
      obtain ⟨y1, y2⟩ := z3 (tb.ex (t.exF s))
      refine ⟨y1, fun pos cv hc => ?_⟩
      obtain ⟨c', x1, x2⟩ := y2 pos cv hc
      exact ⟨c', x1, cF.out x2 fun o z => by unfold LamX.CodeO at z; cases z⟩
  · have nb := t.nin e
    rw [del_out nb, g.new b o (by rw [tel_out nb]; exact e) n, tel_out nb]
end
/-! ### what lambdas capture -/
def slots (ρ : Env) : List Nat → Option (List D)
  | [] => some []
  | i :: is => match ρ[i]? with
    | some (.val d) => (slots ρ is).map (d :: ·)
    | _ => none
open Classical in
noncomputable def capt (fr : Fr) (ρ : Env) : D → Option D
  | .fn fr' l ix => if fr' = fr then (slots ρ ix).map (D.clo l) else none
  | d => some d
noncomputable def captL (fr : Fr) (ρ : Env) : List D → Option (List D)
  | [] => some []
  | d :: r => match capt fr ρ d, captL fr ρ r with
    | some d', some r' => some (d' :: r')
    | _, _ => none
noncomputable def capt1 (fr : Fr) (ρ : Env) : D → Option D
  | .lst l => (captL fr ρ l).map D.lst
  | d => capt fr ρ d
noncomputable def captA (fr : Fr) (ρ : Env) : List D → Option (List D)
  | [] => some []
  | d :: r => match capt1 fr ρ d, captA fr ρ r with
    | some d', some r' => some (d' :: r')
    | _, _ => none
def fnC : D → List Addr
  | .fn fr l _ => cellsOf fr.cl l.names
  | _ => []
def fnC1 : D → List Addr
  | .lst l => l.flatMap fnC
  | d => fnC d
open Classical in
theorem capt_some {fr fr' : Fr} {ρ : Env} {l : Lam} {ix : List Nat} {d' : D} (h : capt fr ρ (.fn fr' l ix) = some d') : fr' = fr ∧ ∃ ds, slots ρ ix = some ds ∧ d' = .clo l ds := by
  have h : (if fr' = fr then (slots ρ ix).map (D.clo l) else none) = some d' := h
  by_cases e : fr' = fr
  · rw [if_pos e] at h
    cases hs : slots ρ ix with
    | none => rw [hs] at h; cases h
    | some ds => rw [hs] at h; cases h; exact ⟨e, ds, rfl, rfl⟩
  · rw [if_neg e] at h
    cases h
theorem slots_rep {K : PySem.W.Frag} {F0 H0 F H : Hp} {σ : L2.St} {ρ : Env} (S : Srep K F0 H0 F H σ ρ) : ∀ {ix : List Nat} {ds : List D}, slots ρ ix = some ds → ∃ vs : List V, vs.length = ix.length ∧ Reps K F vs ds ∧ ∀ (j i : Nat) v, ix[j]? = some i → vs[j]? = some v → σ[i]? = some (some v)
  | [], ds, h => by
    cases h
    exact ⟨[], rfl, .nil, fun j i v h => by simp at h⟩
  | i :: is, ds, h => by
    unfold slots at h
    split at h
    · rename_i d e
      cases hs : slots ρ is with
      | none => rw [hs] at h; cases h
      | some ds' =>
        rw [hs] at h
        cases h
        obtain ⟨v, h1, h2⟩ := S.val i d e
        obtain ⟨vs, k1, k2, k3⟩ := slots_rep S hs
        refine ⟨v :: vs, by simp [k1], .cons h2 k2, fun j i' v' e1 e2 => ?_⟩
        cases j with
        | zero => cases e1; cases e2; exact h1
        | succ j => exact k3 j i' v' (by simpa using e1) (by simpa using e2)
    · cases h
section
variable {X : Cx} {W : WX} {pins : List (Addr × Obj)} {σ : L2.St} {F0 H0 F H : Hp} {s : Shared} {ρ : Env} {C : List Addr}
theorem tell_of (I : Inv X pins σ H s) (hfn : ∀ x, X.fn x = true) (hC : ∀ a ∈ C, ∃ y, X.env.cells.lookup y = some a) : Tell X.base X.stack H s.heap C := by
  refine ⟨fun a ha => ?_, fun a ha => ?_, fun a ha hb => ?_, fun a ha => ?_⟩
  · obtain ⟨y, e⟩ := hC a ha
    obtain ⟨v, o, ho, _⟩ := I.cell y a e
    exact ⟨o, ho⟩
  · obtain ⟨y, e⟩ := hC a ha
    exact I.freeC y a e
  · obtain ⟨y, e⟩ := hC a ha
    rcases List.mem_cons.mp (I.stkSub a hb) with z | z
    · exact I.cne y a e z
    · obtain ⟨_, o, ho, _⟩ := I.ok.funs.mem z
      exact absurd (Heap.lt_size ho) (Nat.not_lt.mpr (I.ok.cab y a (hfn y) e))
  · obtain ⟨y, e⟩ := hC a ha
    exact Heap.get?_none_of_le (Nat.le_trans I.ok.bsz (I.ok.cab y a (hfn y) e))
theorem cellsOf_at {cl : List (Str × Addr)} {ys : List Str} {a : Addr} (h : a ∈ cellsOf cl ys) : ∃ y, cl.lookup y = some a := by
  obtain ⟨y, _, e⟩ := List.mem_filterMap.mp h
  exact ⟨y, e⟩
theorem capt_rep (I : Inv X pins σ H s) (S : Srep X.K F0 H0 F H σ ρ) (t : Tell X.base X.stack H s.heap C) {v : V} {d d' : D} (r : Rep X.K F v d) (hc : capt (frOf X) ρ d = some d') (hC : ∀ a ∈ fnC d, a ∈ C) : Rep X.K (tel s.heap F C) v d' := by
  have same : ∀ {d : D}, Rep X.K F v d → Rep X.K (tel s.heap F C) v d := fun r => r.ex (t.exF S.sub)
  cases r with
  | fn hl hf =>
    rename_i f fr l ix
    obtain ⟨hfr, ds, hs, hd⟩ := capt_some hc
    subst hfr
    subst hd
    obtain ⟨vs, k1, k2, k3⟩ := slots_rep S hs
    have hlen := fitB_len hf
    refine .clo (hl.ex (t.exF S.sub)) I.ok.inj ⟨by omega, fun j y v e1 e2 => ?_⟩ (k2.ex (t.exF S.sub))
    have hj : j < ix.length := by
      have := (List.getElem?_eq_some_iff.mp e2).1
      omega
    obtain ⟨n1, n2⟩ := fitB_at hf e1 (List.getElem?_eq_getElem hj)
    obtain ⟨m, _, hl2⟩ := I.loc
    obtain ⟨u, ru, lk⟩ := hl2 _ y v n1 (k3 j _ v (List.getElem?_eq_getElem hj) e2) (.inr (.inl n2))
    rcases lk with ⟨k, _⟩ | ⟨_, c, h1, o, h2, h3⟩
    · have k : X.env.scope.names.lookup y = some .local := k
      have n2 : X.env.scope.names.lookup y = some .cell := n2
      rw [n2] at k
      cases k
    · exact ⟨c, o, u, h1, tel_in (hC c (cellsOf_mem (List.mem_of_getElem? e1) h1)) h2, h3, ru⟩
  | non => cases hc; exact same .non
  | bl b => cases hc; exact same (.bl b)
  | int b => cases hc; exact same (.int b)
  | str b => cases hc; exact same (.str b)
  | ty b => cases hc; exact same (.ty b)
  | ref b => cases hc; exact same (.ref b)
  | tup a b => cases hc; exact same (.tup a b)
  | lst a b => cases hc; exact same (.lst a b)
  | scr a => cases hc; exact same (.scr a)
  | dI a b c => cases hc; exact same (.dI a b c)
  | dT a b c => cases hc; exact same (.dT a b c)
  | any => cases hc; exact same (.any v)
  | clo a b c d => cases hc; exact same (.clo a b c d)
  | ins a b c d => cases hc; exact same (.ins a b c d)
theorem captL_rep (I : Inv X pins σ H s) (S : Srep X.K F0 H0 F H σ ρ) (t : Tell X.base X.stack H s.heap C) : ∀ {vs : List V} {ds ds' : List D}, Reps X.K F vs ds → captL (frOf X) ρ ds = some ds' → (∀ a ∈ ds.flatMap fnC, a ∈ C) → Reps X.K (tel s.heap F C) vs ds'
  | _, _, _, .nil, h, _ => by cases h; exact .nil
  | _, _, _, .cons r rs, h, hC => by
    unfold captL at h
    split at h
    · rename_i d' r' h1 h2
      cases h
      exact .cons (capt_rep I S t r h1 fun a ha => hC a (by rw [List.flatMap_cons]; exact List.mem_append_left _ ha)) (captL_rep I S t rs h2 fun a ha => hC a (by rw [List.flatMap_cons]; exact List.mem_append_right _ ha))
    · cases h
theorem capt1_rep (I : Inv X pins σ H s) (S : Srep X.K F0 H0 F H σ ρ) (t : Tell X.base X.stack H s.heap C) {v : V} {d d' : D} (r : Rep X.K F v d) (hc : capt1 (frOf X) ρ d = some d') (hC : ∀ a ∈ fnC1 d, a ∈ C) : Rep X.K (tel s.heap F C) v d' := by
  unfold capt1 at hc
  split at hc
  · rename_i l
    cases hs : captL (frOf X) ρ l with
    | none => rw [hs] at hc; cases hc
    | some l' =>
      rw [hs] at hc
      cases hc
      cases r with
      | lst e rs => exact .lst (t.exF S.sub _ _ e) (captL_rep I S t rs hs hC)
  · rename_i hn
    refine capt_rep I S t r hc fun a ha => hC a ?_
    unfold fnC1
    split
    · rename_i l
      exact absurd rfl (hn l)
    · exact ha
theorem captA_rep (I : Inv X pins σ H s) (S : Srep X.K F0 H0 F H σ ρ) (t : Tell X.base X.stack H s.heap C) : ∀ {vs : List V} {ds ds' : List D}, Reps X.K F vs ds → captA (frOf X) ρ ds = some ds' → (∀ a ∈ ds.flatMap fnC1, a ∈ C) → Reps X.K (tel s.heap F C) vs ds'
  | _, _, _, .nil, h, _ => by cases h; exact .nil
  | _, _, _, .cons r rs, h, hC => by
    unfold captA at h
    split at h
    · rename_i d' r' h1 h2
      cases h
      exact .cons (capt1_rep I S t r h1 fun a ha => hC a (by rw [List.flatMap_cons]; exact List.mem_append_left _ ha)) (captA_rep I S t rs h2 fun a ha => hC a (by rw [List.flatMap_cons]; exact List.mem_append_right _ ha))
    · cases h
theorem captA_len {fr : Fr} : ∀ {ds ds' : List D}, captA fr ρ ds = some ds' → ds'.length = ds.length
  | [], _, h => by cases h; rfl
  | d :: r, _, h => by
    unfold captA at h
    split at h
    · rename_i d' r' h1 h2
      cases h
      simp [captA_len h2]
    · cases h
/-- every captured cell is a cell of the frame -/
theorem fnC_frame {fr : Fr} {d d' : D} (h : capt fr ρ d = some d') : ∀ a ∈ fnC d, ∃ y, fr.cl.lookup y = some a := fun a ha => by
  cases d with
  | fn fr' l ix =>
    obtain ⟨e, _⟩ := capt_some h
    subst e
    exact cellsOf_at ha
  | _ => simp [fnC] at ha
theorem fnCL_frame {fr : Fr} : ∀ {ds ds' : List D}, captL fr ρ ds = some ds' → ∀ a ∈ ds.flatMap fnC, ∃ y, fr.cl.lookup y = some a
  | [], _, _, a, ha => by simp at ha
  | d :: r, _, h, a, ha => by
    unfold captL at h
    split at h
    · rename_i d' r' h1 h2
      rw [List.flatMap_cons] at ha
      rcases List.mem_append.mp ha with z | z
      · exact fnC_frame h1 a z
      · exact fnCL_frame h2 a z
    · cases h
theorem fnC1_frame {fr : Fr} {d d' : D} (h : capt1 fr ρ d = some d') : ∀ a ∈ fnC1 d, ∃ y, fr.cl.lookup y = some a := fun a ha => by
  unfold capt1 at h
  split at h
  · rename_i l
    cases hs : captL fr ρ l with
    | none => rw [hs] at h; cases h
    | some l' => exact fnCL_frame hs a ha
  · rename_i hn
    refine fnC_frame h a ?_
    unfold fnC1 at ha
    split at ha
    · rename_i l
      exact absurd rfl (hn l)
    · exact ha
theorem fnCA_frame {fr : Fr} : ∀ {ds ds' : List D}, captA fr ρ ds = some ds' → ∀ a ∈ ds.flatMap fnC1, ∃ y, fr.cl.lookup y = some a
  | [], _, _, a, ha => by simp at ha
  | d :: r, _, h, a, ha => by
    unfold captA at h
    split at h
    · rename_i d' r' h1 h2
      rw [List.flatMap_cons] at ha
      rcases List.mem_append.mp ha with z | z
      · exact fnC1_frame h1 a z
      · exact fnCA_frame h2 a z
    · cases h
/-- x(.. lambdas ..) -/
noncomputable def eCallL (fr : Fr) (f : List D → R D) (as : Env → R (List D)) : Env → R D := fun ρ => (as ρ).bind fun ds => match captA fr ρ ds with
  | some ds' => (match f ds' with
    | .ok d => if noC d = true then .ok d else .bad
    | _ => .bad)
  | none => .bad
theorem de_callL {k j n : Nat} {x : Str} {f : List D → R D} {e : Expr} {es : List Expr} {p pos : Pos} {as : Env → R (List D)} (h : Fd X.prog X.w X.K X.mg X.base k x n f) (hr : Room j X.A) (hk : k ≤ j) (hfn : ∀ x, X.fn x = true) (hg : Gl X x)
    (ha : DA X W (e :: es) as) (hdb : (x == ("__debug__" : Str)) = false := by decide) (he : starEach (e :: es) X.env = (false, eval e X.env) :: starEach es X.env := by rfl) (hpl : (backTo pos (starEach es X.env)).any (·.1) = false := by rfl)
    (hlen : ∀ ρ ds, as ρ = .ok ds → ds.length = n) : DE X W (.Call (.Name x p) (e :: es) [] pos) (eCallL (frOf X) f as) := by
  obtain ⟨a, fd, ps, hm, Fk, kp, hb⟩ := h.ex
  refine ⟨fun pins s σ H Q I h => ?_⟩
  obtain ⟨F0, H0, F, ρ, S, q⟩ := h
  unfold eCallL at q
  refine wpAny_Call_Name_kw (ld_glob I hg hm ?_ hdb)
  have main : tDs X.K W as σ H fun vs H1 => ∃ F1 ds ds' d, Grow F H F1 H1 ∧ Reps X.K F1 vs ds ∧ ds.length = n ∧ captA (frOf X) ρ ds = some ds' ∧ f ds' = .ok d ∧ noC d = true ∧ ∀ v F' H', Grow F H F' H' → Rep X.K F' v d → Q v H' := by
    cases ea : as ρ with
    | bad => rw [ea] at q; exact q.elim
    | exc c => rw [ea] at q; exact tDs_exc S ea q
    | ok ds =>
      rw [ea, R.bind_ok] at q
      refine tDs_ok S ea fun vs F1 H1 g1 r1 => ?_
      cases ec : captA (frOf X) ρ ds with
      | none => simp only [ec] at q
      | some ds' =>
        simp only [ec] at q
        cases ef : f ds' with
        | bad => simp only [ef] at q
        | exc c => simp only [ef] at q
        | ok d =>
          simp only [ef] at q
          by_cases hn : noC d = true
          · rw [if_pos hn] at q
            exact ⟨F1, ds, ds', d, g1, r1, hlen ρ ds ea, ec, ef, hn, q⟩
          · rw [if_neg hn] at q
            exact q.elim
  refine PySem.W.callWith_K (h₀ := X.base) I.ok.mod.kin kp (thn (ha.run pos pins s σ H _ I main) fun us s1 ⟨vs, H1, I1, r, q1⟩ => ⟨I1.kIn, ?_⟩) he hpl
  obtain ⟨F1, ds, ds', d, g1, r1, hn, ec, ef, hnc, q1⟩ := q1
  have S1 := S.go g1
  have t : Tell X.base X.stack H1 s1.heap (ds.flatMap fnC1) := tell_of I1 hfn (fnCA_frame ec)
  have rc := captA_rep I1 S1 t r1 ec fun a ha => ha
  have hsp : spD X.K n f vs (tel s1.heap H1 (ds.flatMap fnC1)) (fun v H' => ∃ F', Grow (tel s1.heap F1 (ds.flatMap fnC1)) (tel s1.heap H1 (ds.flatMap fnC1)) F' H' ∧ Rep X.K F' v d) (fun _ _ _ => False) := by
    refine ⟨tel s1.heap F1 (ds.flatMap fnC1), ds', t.sub S1.sub, fun T hT => t.tab S1.sub (S1.tab T hT), rc, (captA_len ec).trans hn, ?_⟩
    rw [ef]
    exact fun v F' H' g r => ⟨F', g, r⟩
  have hl : us.length = ps.length := by rw [← r.length]; exact Fk.len _ _ _ _ hsp
  have b := hb s1 us I1.kIn (by rw [List.append_nil]; exact hl)
  rw [List.append_nil] at b
  refine wpAny_call (codeAny_mono (Fk.run X.A X.stack s1 _ ⟨us, []⟩ us vs _ _ (hr.mono hk) (t.env0 I1.env0) b r hsp) fun r s' hq => ?_)
  cases r with
  | error e =>
    obtain ⟨_, _, _, _, _, _, _, _, _, _, _, _, z⟩ := hq
    exact z.elim
  | ok fl =>
    cases fl with
    | ret u =>
      refine I1.after (t.ce (fun v H' told ⟨F', g, r'⟩ => ?_) hq)
      exact q1 v _ _ (g1.trans (t.grow S1.sub g)) (r'.del (t.cin g.ef) hnc)
    | next => exact False.elim hq
    | brk => exact False.elim hq
    | cont => exact False.elim hq
end
section
variable {P : Program} {w : World} {K : PySem.W.Frag} {mg : Str → Option Value} {base : Heap} {X : Cx} {W : WX} {N : List Str} {sc : Scope} {k : Nat} {pos : Pos}
theorem xcallL (C : Ctx P w K mg base X W N sc k) (hfn : ∀ x, X.fn x = true) {j n : Nat} {x : Str} {f : List D → R D} {e : Expr} {es : List Expr} {p : Pos} {as : Env → R (List D)} (h : Fd P w K mg base j x n f) (hk : j ≤ k) (hg : glB sc x = true) (ha : DA X W (e :: es) as) (hlen : ∀ ρ ds, as ρ = .ok ds → ds.length = n)
    (hdb : (x == ("__debug__" : Str)) = false := by decide) (he : starEach (e :: es) X.env = (false, eval e X.env) :: starEach es X.env := by rfl) (hpl : (backTo pos (starEach es X.env)).any (·.1) = false := by rfl) :
    DE X W (.Call (.Name x p) (e :: es) [] pos) (eCallL (frOf X) f as) := de_callL (C.fd h) C.room hk hfn (C.gl hg) ha hdb he hpl hlen
end
end DL

set_option Elab.async false
set_option linter.all false
set_option maxRecDepth 100000
set_option maxHeartbeats 2000000
/-! A def called within an except suite, with the exception that is handled. -/
namespace DL
variable [Tabs]
open PySem PySem.Spec PyProof.Rows L2
open Evl (Ex)
theorem call_isP {X : Cx} {a C : Addr} {oe : Obj} (c : ExcC X.K C) (hz : Zc (.ref C) none oe) (hf : ∃ vs, oe.data = .fields vs) (hp : (a, oe) ∈ X.pn) : CallR X (.builtin "isinstance") (rIsE X.K C a) := by
  intro pins s σ H xs us Q I r h
  obtain ⟨c', cv, b, rfl, hcv, e, q⟩ := h
  cases r with
  | cons rx rr =>
    cases rr with
    | cons rt rr =>
      cases rr
      cases rx
      have ec := hcv _ rt
      subst ec
      obtain ⟨hget, _⟩ := I.pin (a, oe) (List.mem_append.mpr (.inl hp))
      obtain ⟨vs, hv⟩ := hf
      have J : PySem.W.InstAt s.heap a oe C none := by
        obtain ⟨oc, od, oda, osl⟩ := oe
        obtain ⟨h1, h2⟩ := hz
        dsimp only at h1 h2 hv
        subst h1 h2 hv
        exact ⟨hget, rfl, rfl, trivial⟩
      exact PySem.W.kia_one (PySem.W.handS_kitx_exc c.hg c.hk c.hs c.hd c.ha c.hn c.ht c.hm) I.kIn J e (fun z => nomatch z) fun tk => ⟨.bl b, H, I.kept (t' := tk) fun _ _ z => z, rfl, q⟩
open Classical in
/-- what the def answers, whatever the exception's address -/
noncomputable def hotD (n : Nat) (g : Addr → SD) : R D := if h : ∃ r, ∀ a, fnD n (g a) [.ref a] = r then h.choose else .bad
theorem hotD_eq {n : Nat} {g : Addr → SD} {r : R D} (h : ∀ a, fnD n (g a) [.ref a] = r) : hotD n g = r := by
  unfold hotD
  have hx : ∃ r, ∀ a, fnD n (g a) [.ref a] = r := ⟨r, h⟩
  rw [dif_pos hx, ← hx.choose_spec 0, h 0]
theorem hotD_at {n : Nat} {g : Addr → SD} {r : R D} (e : hotD n g = r) (nb : r ≠ .bad) (a : Addr) : fnD n (g a) [.ref a] = r := by
  unfold hotD at e
  split at e
  · rename_i hx
    rw [← e]
    exact hx.choose_spec a
  · exact absurd e.symm nb
/-- a def that is called with the handled exception -/
structure HotFn (P : Program) (w : World) (K : PySem.W.Frag) (mg : Str → Option Value) (base : Heap) (k : Nat) (f : Addr) (fd : FuncData) (x : Str) (mc : Addr → R D) : Prop where
  run : ∀ (A : Around) (outer : List PySem.Env) (s : Shared) (F H : Hp) (args : Args) (us : List Value) (Q : VK) (cl a : Addr) (oe : Obj) (d : D), L2H.RoomH k A → L2H.PinOk outer H s (a, oe) → ExcC K cl → Zc (.ref cl) none oe → (∃ vs, oe.data = .fields vs) →
    Env0 P w K mg base A outer s H → BindsTo s fd args ([x].zip us) → Vals [.ref a] us → Ex F H → (∀ T ∈ Tabs.all, TabRep F H T) → mc cl = .ok d → (∀ v F' H', Grow F H F' H' → Rep K F' v d → Q v H') →
    codeAny (model P w) A (.call (.ref f) args) (CR (L2.CX P w) outer P w H s Q (fun _ _ _ => False)) s
theorem hot_of {P : Program} {w : World} {K : PySem.W.Frag} {mg : Str → Option Value} {base : Heap} {y qual x : Str} {params : Arguments} {body : List Stmt} {sc : Scope} {f : Addr} {fd : FuncData} {N : List Str} {k : Nat} {g : Addr → Addr → SD} (F : FunD K y qual params body sc [] [] f fd) (S : FnScope N [x] sc) (hnd : N.Nodup)
    (hbody : ∀ (Y : Cx) (cl a : Addr), SCtx K mg Y N sc → (∀ x, Y.fn x = true) → CallR Y (.builtin "isinstance") (rIsE K cl a) → DSs Y WN body (g cl a)) : HotFn P w K mg base (k + 1) f fd x (fun cl => hotD N.length (g cl)) := by
  obtain ⟨oc, od, dV, kV, doc, pm, an, cdv, ct, osl, rfl, lk, hcd, _, _⟩ := F.ex
  refine ⟨fun A outer s F H args us Q cl a oe d hr hpin hx hz hf e0 hb r sub tb hm hq => ?_⟩
  have hg := hotD_at hm (by intro z; cases z) a
  have KX : K.In s.heap := e0.mod.kin.keeps fun b o e => (e0.bs b o e).1
  have lim : s.heap.NoLimit := e0.mod.nolimit.keeps fun b o e => (e0.bs b o e).1
  have hkind : ∀ y ∈ [x].zip us, sc.names.lookup y.1 = some .local ∨ (sc.names.lookup y.1 = some .cell ∧ ((cellsFrom (s.heap.objs.size + 1) sc.names []).lookup y.1).isSome = true) := fun ⟨n, v⟩ hy => by
    rcases S.par n (List.of_mem_zip hy).1 with q | q
    · exact .inl q
    · exact .inr ⟨q, PySem.W.cellsFrom_some _ _ _ (.inl q)⟩
  refine codeAny_call_function hr.depth (KX _ _ lk) rfl S.co S.gen rfl (PySem.W.codeRec_of KX hcd) (hb _ _ _ _ ?_)
  refine wpAny_newFunctionEnv_cells S.kind hkind fun env he s1 xx => ?_
  subst he
  refine ⟨lim.keeps xx.toInCall.keep, codeAny_func ?_⟩
  have I : Inv (L2H.cxH (L2.CX P w) P w K mg base N qual sc f cdv A outer s H (fun _ _ _ => False) (a, oe)) [] (L2.start N [.ref a]) H s1 := L2H.inv_startH S hpin e0 rfl r xx
  have C : SCtx K mg (L2H.cxH (L2.CX P w) P w K mg base N qual sc f cdv A outer s H (fun _ _ _ => False) (a, oe)) N sc := ⟨rfl, rfl, rfl, rfl, hnd, by
    have := hr.un
    show A.units + 3 + 65 < cLine
    omega⟩
  have ht := hbody _ cl a C (fun _ => rfl) (call_isP hx hz hf List.mem_cons_self)
  refine wpAny_mono (ht.run [] s1 (L2.start N [.ref a]) H { nx := fun _ H' => Q .non H', rt := Q } I ⟨F, H, F, startE N.length [.ref a], start_rep sub tb (.cons (.ref a) .nil), ?_⟩) (fun fl s' hs => ?_) fun e s' hs => hs
  · unfold fnD at hg
    show Wants K _ _ F H F (g cl a (startE N.length [.ref a]))
    cases eg : g cl a (startE N.length [.ref a]) with
    | none => rw [eg] at hg; cases hg
    | some o =>
      rw [eg] at hg
      cases o with
      | nx ρ => cases hg; exact fun σ' F' H' e S' => hq .non F' H' S'.grow .non
      | rt d => cases hg; exact fun v F' H' g r => hq v F' H' g r
      | xc c ρ => cases hg
      | br ρ => cases hg
      | ct ρ => cases hg
  · have fin : ∀ {σ' : L2.St} {H' : Hp} {v : V} {u : Value}, Inv (L2H.cxH (L2.CX P w) P w K mg base N qual sc f cdv A outer s H (fun _ _ _ => False) (a, oe)) [] σ' H' s' → RelV v u → Q v H' → CE outer P w H s Q u s' :=
      fun {σ' H' v u} J rv q => ⟨v, H', J.os, J.bare, J.base, J.hok, rv, q⟩
    cases fl with
    | ret u =>
      obtain ⟨v, σ', H', J, rv, q⟩ := hs
      exact fin J rv q
    | next =>
      obtain ⟨σ', H', J, q⟩ := hs
      exact fin (v := V.non) (u := Value.none) J rfl q
    | brk =>
      obtain ⟨_, _, _, q⟩ := hs
      exact False.elim q
    | cont =>
      obtain ⟨_, _, _, q⟩ := hs
      exact False.elim q
structure Hot (P : Program) (w : World) (K : PySem.W.Frag) (mg : Str → Option Value) (base : Heap) (k : Nat) (x : Str) (mc : Addr → R D) : Prop where
  ex : ∃ (f : Addr) (fd : FuncData) (y : Str), mg x = some (.ref f) ∧ HotFn P w K mg base k f fd y mc ∧ PySem.W.keepIn K (.ref f) = true ∧ Binds K fd [y] []
/-- an except suite's place, with what a call there asks -/
structure HCtx (P : Program) (w : World) (K : PySem.W.Frag) (mg : Str → Option Value) (base : Heap) (X : Cx) (N : List Str) (sc : Scope) (k : Nat) (cl a : Addr) : Prop where
  s : SCtx K mg X N sc
  prog : X.prog = P
  wd : X.w = w
  bs : X.base = base
  room : L2H.RoomH k X.A
  exc : ExcC K cl
  pin : ∃ oe, (a, oe) ∈ X.pn ∧ Zc (.ref cl) none oe ∧ ∃ vs, oe.data = .fields vs
def eHot (mc : Addr → R D) (cl a : Addr) (f : Env → R D) : Env → R D := fun ρ => (f ρ).bind fun d => match d with
  | .ref a' => if a' = a then (match mc cl with
    | .ok d => .ok d
    | _ => .bad) else .bad
  | _ => .bad
section
variable {P : Program} {w : World} {K : PySem.W.Frag} {mg : Str → Option Value} {base : Heap} {X : Cx} {W : WX} {N : List Str} {sc : Scope} {k : Nat} {pos : Pos}
theorem shot {cl a : Addr} (C : HCtx P w K mg base X N sc k cl a) {x : Str} {j : Nat} {mc : Addr → R D} {e : Expr} {p : Pos} {fe : Env → R D} (h : Hot P w K mg base j x mc) (hk : j ≤ k) (hg : glB sc x = true) (ha : DE X W e fe)
    (hdb : (x == ("__debug__" : Str)) = false := by decide) (he : starEach [e] X.env = (false, eval e X.env) :: starEach [] X.env := by rfl) (hpl : (backTo pos (starEach [] X.env)).any (·.1) = false := by rfl) :
    DE X W (.Call (.Name x p) [e] [] pos) (eHot mc cl a fe) := by
  obtain ⟨f, fd, y, hm, HF, kp, hb⟩ := h.ex
  have eP := C.prog
  have ew := C.wd
  have eK := C.s.K
  have em := C.s.mg
  have eb := C.bs
  subst eP ew eK em eb
  refine ⟨fun pins s σ H Q I h => ?_⟩
  obtain ⟨F0, H0, F, ρ, S, q⟩ := h
  unfold eHot at q
  refine wpAny_Call_Name_kw (ld_glob I (C.s.gl hg) hm ?_ hdb)
  have main : tDs X.K W (aCons fe aNil) σ H fun vs H1 => ∃ F1 d, Grow F H F1 H1 ∧ vs = [.ref a] ∧ mc cl = .ok d ∧ ∀ v F' H', Grow F H F' H' → Rep X.K F' v d → Q v H' := by
    cases ea : fe ρ with
    | bad => rw [ea] at q; exact q.elim
    | exc c => rw [ea] at q; exact tDs_exc S (by show (fe ρ).bind _ = _; rw [ea]; rfl) q
    | ok d =>
      rw [ea, R.bind_ok] at q
      refine tDs_ok (d := [d]) S (by show (fe ρ).bind _ = _; rw [ea]; rfl) fun vs F1 H1 g1 r1 => ?_
      cases r1 with
      | cons r1 rr =>
        cases rr
        cases r1 with
        | ref a' =>
          simp only at q
          by_cases e1 : a' = a
          · rw [if_pos e1] at q
            cases em : mc cl with
            | bad => simp only [em] at q
            | exc c => simp only [em] at q
            | ok d =>
              simp only [em] at q
              exact ⟨F1, d, g1, by rw [e1], rfl, q⟩
          · rw [if_neg e1] at q
            exact q.elim
        | _ => exact q.elim
  refine PySem.W.callWith_K (h₀ := X.base) I.ok.mod.kin kp (thn ((da_cons ha da_nil he).run pos pins s σ H _ I main) fun us s1 ⟨vs, H1, I1, r, q1⟩ => ⟨I1.kIn, ?_⟩) he hpl
  obtain ⟨F1, d, g1, rfl, emc, q1⟩ := q1
  obtain ⟨oe, hp, hz, hf⟩ := C.pin
  have P1 := I1.pin (a, oe) (List.mem_append_left _ hp)
  have hpin : L2H.PinOk X.stack H1 s1 (a, oe) := ⟨P1.1, P1.2.1, fun hm => (List.mem_cons.mp (I1.stkSub a hm)).elim P1.2.2.1 P1.2.2.2.1, P1.2.2.2.2⟩
  have hl : us.length = [y].length := by rw [← r.length]; rfl
  have b := hb s1 us I1.kIn (by rw [List.append_nil]; exact hl)
  rw [List.append_nil] at b
  have S1 := S.go g1
  refine wpAny_call (codeAny_mono (HF.run X.A X.stack s1 F1 H1 ⟨us, []⟩ us Q cl a oe d (C.room.mono hk) hpin C.exc hz hf I1.env0 b r S1.sub S1.tab emc fun v F' H' g r => q1 v F' H' (g1.trans g) r) fun r s' hq => ?_)
  cases r with
  | error e =>
    obtain ⟨_, _, _, _, _, _, _, _, _, _, _, _, z⟩ := hq
    exact z.elim
  | ok fl =>
    cases fl with
    | ret u => exact I1.after hq
    | next => exact False.elim hq
    | brk => exact False.elim hq
    | cont => exact False.elim hq
theorem ytryH (C : Ctx P w K mg base X W N sc k) (O : Cok X W N sc k) (i : Nat) (L : List Addr) (hL : ∀ c ∈ L, ExcC K c) {x n : Str} {body suite : List Stmt} {b0 : Stmt} {np pos' : Pos} {b : SD} {h : Addr → Addr → SD} (hi : N[i]? = some n) (hln : isLoc sc n = true) (hg : glB sc x = true) (hm : mg x = some (.ref (He.ga K x)))
    (hb : ∀ Y V, Ctx P w K mg base Y V N sc k → PassesOwn (model Y.prog Y.w) Y.A Y.env Y.xe → (∀ x, Y.fn x = true) → DSs Y V body b)
    (hsu : ∀ Y cl a, HCtx P w K mg base Y N sc k cl a → DSs Y WN (b0 :: suite) (h cl a))
    (hh : ∀ cl a (ρ : Env) d, h cl 0 (ρ.set i (.val (.ref 0))) = some (.rt d) → h cl a (ρ.set i (.val (.ref a))) = some (.rt d)) (hdb : (x == ("__debug__" : Str)) = false := by decide) :
    DS X W (.Try body [.ExceptHandler (some (.Name x np)) (some n) (b0 :: suite) pos'] [] [] pos) (sTry b i (fun cl => PySem.W.exmOne K (.ref cl) (.ref (He.ga K x))) (hIf L h)) := by
  have eK := C.K
  subst eK
  refine ds_try O.stack O.frame C.nd' (C.at hi) (C.isLoc hln) ⟨C.gl hg, hdb, .inl (C.mgs hm)⟩ C.takes (fun V pn xe tk hp => hb _ V ⟨C.prog, C.wd, rfl, C.mg, C.bs, C.hN, C.hsc, C.nd, C.calm, C.room, tk⟩ hp O.fn) (fun a oe cl pn hz hd => ?_) fun cl a ρ d => ?_
  · unfold hIf
    split
    · rename_i hc
      exact hsu _ cl a ⟨⟨rfl, C.mg, C.hN, C.hsc, C.nd, C.hu⟩, C.prog, C.wd, C.bs, ⟨C.room.dp, C.room.un⟩, hL cl hc, oe, List.mem_cons_self, hz, hd⟩
    · exact pss_imp pss_never fun E σ H ⟨F0, H0, F, ρ, S, q⟩ => q.elim
  · unfold hIf
    split
    · exact hh cl a ρ d
    · exact fun h => h
theorem hotTup {mc : Addr → R D} {i : Nat} {z : Str} (cl a : Addr) (ρ : Env) (d : D) : sRet (eArgs gTupD (aCons (eC (.str z)) (aCons (eHot mc cl 0 (eVar i)) aNil))) (ρ.set i (.val (.ref 0))) = some (.rt d) → sRet (eArgs gTupD (aCons (eC (.str z)) (aCons (eHot mc cl a (eVar i)) aNil))) (ρ.set i (.val (.ref a))) = some (.rt d) := by
  by_cases h : i < ρ.length
  · simp [sRet, sE, eArgs, aCons, aNil, eC, eHot, eVar, List.getElem?_set, h]
    cases mc cl <;> simp [gTupD]
  · simp [sRet, sE, eArgs, aCons, aNil, eC, eHot, eVar, List.getElem?_set, h]
end
end DL

set_option Elab.async false
set_option linter.all false
set_option maxRecDepth 100000
set_option maxHeartbeats 2000000
/-! Rules in an except suite; makers of lambdas; the end with tables. -/
namespace DL
variable [Tabs]
open PySem PySem.Spec PyProof.Rows L2
open Evl (Ex)
/-! ### xs.count(b), bools -/
def rCntB (K : PySem.W.Frag) : V → List V → Hp → VK → Prop := fun x xs H Q => ∃ (p : Addr) (bs : List Bool) (c : Bool), x = .ref p ∧ xs = [.bl c] ∧ SqL K H p (bs.map V.bl) ∧ Q (.int (bs.count c : Nat)) H
def eqB (c : Bool) : Value → Bool
  | .bool b => b == c
  | _ => false
theorem bls_of_vals : ∀ {bs : List Bool} {its : List Value}, Vals (bs.map V.bl) its → its = bs.map Value.bool
  | [], _, .nil => rfl
  | b :: r, _, .cons h t => by
    cases h
    rw [List.map_cons, bls_of_vals t]
theorem mt_lcountB {X : Cx} : MtR X "list.count" (rCntB X.K) := by
  intro pins s σ H x xs v us Q I rx rxs h
  obtain ⟨p, bs, c, rfl, rfl, hs, q⟩ := h
  cases rx
  obtain ⟨u, rfl, ru⟩ := rxs.one
  cases ru
  obtain ⟨its, rv, ⟨⟨cls, dd, data, sl⟩, n, ho, hc, hdn, hd⟩, hlen⟩ := I.list hs
  simp only at hc hd
  subst hc hd
  have hi := bls_of_vals rv
  subst hi
  refine call_meets PySem.F.slot_list_count ⟨_, ho, rfl⟩ PySem.F.entry_list_count (PySem.F.args_list_count_2 _ _)
    (SeqAt.list_countAt p (bs.map Value.bool).toArray n dd sl (.bool c) (eqB c)) ⟨ho, fun y hy => ?_, ?_⟩
  · obtain ⟨b, _, rfl⟩ := List.mem_map.mp (show y ∈ bs.map Value.bool by simpa using hy)
    exact SeqAt.EqAt.bool_bool b c
  · have ec : (bs.map Value.bool).toArray.toList.countP (eqB c) = bs.count c := by
      show (bs.map Value.bool).countP (eqB c) = _
      rw [List.countP_map, List.count]
      congr 1
    refine ⟨.int (bs.count c : Nat), H, I.tok _, ⟨s.toks, ?_⟩, q⟩
    show Value.int (((bs.map Value.bool).toArray.toList.countP (eqB c) : Nat) : Int) s.toks = Value.int ((bs.count c : Nat) : Int) s.toks
    rw [ec]
def eCountB (fo : Env → R D) (fa : Env → R (List D)) : Env → R D := fun ρ => (fo ρ).bind fun o => match o with
  | .lst l => (fa ρ).bind fun as => match as with
    | [.bl c] => (match asBls l with
      | some bs => .ok (.int (bs.count c : Nat))
      | none => .bad)
    | _ => .bad
  | _ => .bad
theorem de_countB {X : Cx} {W : WX} {e : Expr} {fo : Env → R D} {fa : Env → R (List D)} (base : PE X e (tBM X.K "list" (rCntB X.K) (tD X.K W fo) (tDs X.K W fa))) (hl : ∀ ρ ds, fa ρ = .ok ds → ds.length = 1) : DE X W e (eCountB fo fa) := by
  refine pe_imp base fun σ H Q ⟨F0, H0, F, ρ, S, q⟩ => ?_
  unfold eCountB at q
  show tD X.K W fo σ H fun x H1 => tyV X.K "list" x H1 ∧ tDs X.K W fa σ H1 fun xs H2 => rCntB X.K x xs H2 Q
  cases eo : fo ρ with
  | bad => rw [eo] at q; exact q.elim
  | exc c => rw [eo] at q; exact tD_exc S eo q
  | ok o =>
    rw [eo, R.bind_ok] at q
    refine tD_ok S eo fun v F1 H1 g1 r1 => ?_
    cases r1 with
    | @lst a xs l e1 k1 =>
      refine ⟨.inl ⟨rfl, _, SqL.of (g1.sub _ _ e1)⟩, ?_⟩
      simp only at q
      cases ea : fa ρ with
      | bad => rw [ea] at q; exact q.elim
      | exc c => rw [ea] at q; exact tDs_exc (S.go g1) ea fun F2 H2 g2 => q F2 H2 (g1.trans g2)
      | ok as =>
        rw [ea, R.bind_ok] at q
        refine tDs_ok (S.go g1) ea fun vs F2 H2 g2 r2 => ?_
        match as, hl ρ as ea, r2 with
        | [y], _, .cons (v := yv) ry .nil =>
          cases ry with
          | bl k =>
            simp only at q
            cases es : asBls l with
            | none => simp only [es] at q
            | some ns =>
              simp only [es] at q
              cases asBls_eq es
              exact ⟨a, ns, k, rfl, rfl, SqL.of (by rw [← k1.of_bls]; exact (g1.trans g2).sub _ _ (g2.ef _ _ e1)), q _ F2 H2 (g1.trans g2) (.int _)⟩
          | _ => exact q.elim
    | _ => exact q.elim
section
variable {K : PySem.W.Frag} {mg : Str → Option Value} {X : Cx} {W : WX} {N : List Str} {sc : Scope} {pos : Pos}
theorem SCtx.vis (C : SCtx K mg X N sc) {x : Str} (h : visB sc x = true) : Vis X.env.scope x := by rw [C.hsc]; exact vis_of h
theorem sown (C : SCtx K mg X N sc) (i : Nat) {x : Str} {e : Expr} {p : Pos} {f : Env → R Ow} (h : N[i]? = some x) (hx : isLoc sc x = true) (he : DO X W e f) (hs : swapsWith e (some (.Name x p)) pos.line X.env = pure false := by rfl) : DS X W (.Assign [.Name x p] e pos) (sOwn i f) :=
  ds_own (by rw [C.hN]; exact C.nd) (by rw [C.hN]; exact h) (by rw [C.hsc]; exact .inl (isLoc_of hx)) he hs (.inr (by rw [C.hsc]; exact isLoc_of hx))
theorem sext (C : SCtx K mg X N sc) (i : Nat) {x : Str} {a : Expr} {apos cpos p : Pos} {f : Env → R D} (h : N[i]? = some x) (hv : visB sc x = true) (ha : DE X W a f)
    (hd : (x == ("__debug__" : Str)) = false := by decide) (hcd : (x == ("__classdict__" : Str)) = false := by decide)
    (hbase : attributeBase (.Name x p) "extend" X.env (eval (.Name x p) X.env) = eval (.Name x p) X.env := by rfl)
    (hfew : ((backTo cpos (starEach [a] X.env)).all (fun x => !x.1) && (backToKw cpos (keywordEach [] X.env)).all (fun x => x.1.isSome)
      && decide ([a].length + ([] : List Keyword).length + (if ([] : List Keyword).isEmpty then 0 else 1) < 30)) = true := by rfl)
    (hline : (apos.endLine == cpos.line) = true := by rfl) (hst : starEach [a] X.env = (false, eval a X.env) :: starEach [] X.env := by rfl) (hplain : (backTo cpos (starEach [] X.env)).any (·.1) = false := by rfl)
    (hs : swapsWith (.Call (.Attribute (.Name x p) "extend" apos) [a] [] cpos) none pos.line X.env = pure false := by rfl) :
    DS X W (.Expr (.Call (.Attribute (.Name x p) "extend" apos) [a] [] cpos) pos) (sExt i f) :=
  ds_ext (ps_expr (pe_bm PySem.F.plainAttrs_list PySem.F.slot_list_extend PySem.F.type_list_extend mt_extend (pe_var (by rw [C.hN]; exact h) (C.vis hv) hd hcd) (pa_cons ha pa_nil hst) hbase hfew hline hst hplain) hs)
theorem scount {o a : Expr} {apos : Pos} {fo : DL.Env → R D} {fa : DL.Env → R (List D)} (ho : DE X W o fo) (ha : DA X W [a] fa) (hl : ∀ ρ ds, fa ρ = .ok ds → ds.length = 1)
    (hbase : attributeBase o "count" X.env (eval o X.env) = eval o X.env := by rfl)
    (hfew : ((backTo pos (starEach [a] X.env)).all (fun x => !x.1) && (backToKw pos (keywordEach [] X.env)).all (fun x => x.1.isSome)
      && decide ([a].length + ([] : List Keyword).length + (if ([] : List Keyword).isEmpty then 0 else 1) < 30)) = true := by rfl)
    (hline : (apos.endLine == pos.line) = true := by rfl) (hs : starEach [a] X.env = (false, eval a X.env) :: starEach [] X.env := by rfl) (hplain : (backTo pos (starEach [] X.env)).any (·.1) = false := by rfl) :
    DE X W (.Call (.Attribute o "count" apos) [a] [] pos) (eCountB fo fa) :=
  de_countB (pe_bm PySem.F.plainAttrs_list PySem.F.slot_list_count PySem.F.type_list_count mt_lcountB ho ha hbase hfew hline hs hplain) hl
theorem sty (C : SCtx K mg X N sc) {x : Str} {T : String} (hm : mg x = none) (hv : bootBuiltins x = some (.type T)) (hg : glB sc x = true) (hn : x ≠ "__name__" := by decide) (hd : (x == ("__debug__" : Str)) = false := by decide) : DE X W (.Name x pos) (eC (.ty T)) := de_bltn (v := V.ty T) (C.gl hg) (by rw [C.mg]; exact hm) hv rfl (fun _ => .ty T) hn hd
end
open Classical in
/-- a maker of lambdas: what it answers, whatever its frame -/
noncomputable def fnDL (n : Nat) (g : Fr → SD) : List D → R D := fun ds => if h : ∃ r, ∀ fr, fnD n (g fr) ds = r then h.choose else .bad
theorem fnDL_eq {n : Nat} {g : Fr → SD} {ds : List D} {r : R D} (h : ∀ fr, fnD n (g fr) ds = r) : fnDL n g ds = r := by
  unfold fnDL
  have hx : ∃ r, ∀ fr, fnD n (g fr) ds = r := ⟨r, h⟩
  rw [dif_pos hx, ← hx.choose_spec ⟨[], [], default⟩, h]
theorem fnDL_at {n : Nat} {g : Fr → SD} {ds : List D} (nb : fnDL n g ds ≠ .bad) (fr : Fr) : fnD n (g fr) ds = fnDL n g ds := by
  unfold fnDL at nb ⊢
  split
  · rename_i hx
    exact hx.choose_spec fr
  · rename_i hx
    rw [dif_neg hx] at nb
    exact absurd rfl nb
def lamQual (qual : Str) : Str := qual ++ ".<locals>." ++ "<lambda>"
/-- a maker keeps its denotation -/
theorem fn_okDL {P : Program} {w : World} {K : PySem.W.Frag} {mg : Str → Option Value} {base : Heap} {x qual : Str} {params : Arguments} {body : List Stmt} {sc : Scope} {a : Addr} {fd : FuncData} {N ps : List Str} {k : Nat} {g : Fr → SD} (p : He.Defn) (F : FunD K x qual params body sc [] [] a fd) (S : FnScope N ps sc)
    (ha : a = He.fAd K p) (TB : LamX.TabB base mg (He.cT K p).1 (He.cT K p).2) (nm : Tabs.nm (He.cT K p).2 = lamQual qual) (mem : (He.cT K p).2 ∈ Tabs.all)
    (hbody : ∀ (X : Cx) (W : WX), X.prog = P → X.w = w → X.K = K → X.mg = mg → X.base = base → Cok X W N sc k → MkC X (He.cT K p).2 (lamQual qual) → DSs X W body (g (frOf X))) : FnOk P w K mg base (L2.CX P w) (k + 1) a fd ps (spD K ps.length (fnDL N.length g)) := by
  obtain ⟨oc, od, dV, kV, doc, pm, an, cdv, ct, osl, rfl, lk, hcd, _, _⟩ := F.ex
  refine fn_of lk hcd S (fun vs H Q E ⟨F, ds, _, _, r, hl, _⟩ => r.length.trans hl) fun A outer s H vs Q E hr h => ?_
  obtain ⟨F, ds, sub, tb, r, hl, q⟩ := h
  have C : Cok (cxOf (L2.CX P w) P w K mg base N qual sc a cdv A outer s H E) (fun cls d _ H => E cls d H) N sc k := ⟨rfl, rfl, rfl, hr, takes_of rfl rfl rfl rfl, passes_of rfl, fun _ => rfl, rfl, rfl⟩
  obtain ⟨c, hc⟩ := He.codeIn_ref hcd
  have M : MkC (cxOf (L2.CX P w) P w K mg base N qual sc a cdv A outer s H E) (He.cT K p).2 (lamQual qual) := by
    refine ⟨⟨(He.cT K p).1, TB, ?_⟩, rfl, nm, mem⟩
    show cdv = .ref (He.codeOf K p)
    rw [He.codeOf_eq (p := p) (by rw [← ha]; exact lk) hc, hc]
  have nb : fnDL N.length g ds ≠ .bad := fun z => by rw [z] at q; exact q
  have eq := fnDL_at nb (frOf (cxOf (L2.CX P w) P w K mg base N qual sc a cdv A outer s H E))
  rw [← eq] at q
  refine ⟨_, hbody _ _ rfl rfl rfl rfl rfl C M, F, H, F, startE N.length ds, start_rep sub tb r, ?_⟩
  unfold fnD at q
  show Wants K _ _ F H F (g _ (startE N.length ds))
  cases eg : g (frOf (cxOf (L2.CX P w) P w K mg base N qual sc a cdv A outer s H E)) (startE N.length ds) with
  | none => rw [eg] at q; exact q.elim
  | some o =>
    rw [eg] at q
    cases o with
    | nx ρ => exact fun σ' F' H' e S' => q .non F' H' S'.grow .non
    | rt d => exact fun v F' H' g r => q v F' H' g r
    | xc c ρ => exact fun σ' F' H' e S' => q F' H' S'.grow
    | br ρ => exact q.elim
    | ct ρ => exact q.elim
end DL
namespace DL
open PySem PySem.Spec PyProof.Rows L2
open Evl (Ex)
/-! ### the end -/
def exL (ex : List Str) (tf : List He.Defn) (K : PySem.W.Frag) : Bool := (ex.all fun x => exB K (He.ga K x) && decide (PySem.W.kitOne K (.ref (He.ga K x)) (.type "ValueError") = some true)) && decide ((tf.map fun p => (He.cT K p).2).Nodup)
theorem exL_exc {ex : List Str} {tf : List He.Defn} {K : PySem.W.Frag} (h : exL ex tf K = true) (i : Nat) {x : Str} (e : ex[i]? = some x := by rfl) : ExcC K (He.ga K x) := by
  obtain ⟨h1, _⟩ := He.ba h
  letI : Tabs := ⟨[], fun _ => ""⟩
  exact exB_ok (He.ba (List.all_eq_true.mp h1 x (List.mem_of_getElem? e))).1
theorem exL_val {ex : List Str} {tf : List He.Defn} {K : PySem.W.Frag} (h : exL ex tf K = true) (i : Nat) {x : Str} (e : ex[i]? = some x := by rfl) : PySem.W.kitOne K (.ref (He.ga K x)) (.type "ValueError") = some true := by
  obtain ⟨h1, _⟩ := He.ba h
  exact of_decide_eq_true (He.ba (List.all_eq_true.mp h1 x (List.mem_of_getElem? e))).2
/-- the tables of these makers -/
abbrev tabsOf (K : PySem.W.Frag) (tf : List (He.Defn × Str)) : Tabs := ⟨tf.map fun p => (He.cT K p.1).2, fun a => ((tf.map fun p => ((He.cT K p.1).2, lamQual p.2)).lookup a).getD ""⟩
theorem tabs_mem {K : PySem.W.Frag} {tf : List (He.Defn × Str)} (i : Nat) {p : He.Defn} {q : Str} (h : tf[i]? = some (p, q) := by rfl) : (He.cT K p).2 ∈ (tabsOf K tf).all :=
  List.mem_map.mpr ⟨(p, q), List.mem_of_getElem? h, rfl⟩
theorem lookup_nd {α : Type} : ∀ {l : List (Addr × α)} {a : Addr} {b : α}, (l.map (·.1)).Nodup → (a, b) ∈ l → l.lookup a = some b
  | [], _, _, _, h => by simp at h
  | (c, d) :: r, a, b, hn, h => by
    rw [List.map_cons, List.nodup_cons] at hn
    rcases List.mem_cons.mp h with e | e
    · cases e
      simp [List.lookup]
    · have : a ≠ c := fun z => hn.1 (z ▸ List.mem_map.mpr ⟨(a, b), e, rfl⟩)
      have hb : (a == c) = false := beq_eq_false_iff_ne.mpr this
      simp only [List.lookup, hb]
      exact lookup_nd hn.2 e
theorem tabs_nm {K : PySem.W.Frag} {ex : List Str} {tf : List (He.Defn × Str)} (hx : exL ex (tf.map (·.1)) K = true) (i : Nat) {p : He.Defn} {q : Str} (h : tf[i]? = some (p, q) := by rfl) : (tabsOf K tf).nm (He.cT K p).2 = lamQual q := by
  have nd := of_decide_eq_true (He.ba hx).2
  rw [List.map_map] at nd
  show (List.lookup _ _).getD _ = _
  rw [lookup_nd (b := lamQual q) (by rw [List.map_map]; exact nd) (List.mem_map.mpr ⟨(p, q), List.mem_of_getElem? h, rfl⟩)]
  rfl
theorem walkDL {l : PySem.W.OpenLaw} {n k : Nat} {q : Program} {loose : List Str} {XP : (Str → Option Value) → Heap → Prop} {YP : World → Heap → Prop} {d : DefRec} {x : Str} {tf : List (He.Defn × Str)}
    (hn : l.most = some n) (hn2 : n ≤ sizeLine) (hdf : d.params.defaults = []) (hr : Room k callerA)
    (F : ∀ (w : World) (mg : Str → Option Value) (fa : Addr) (h : Heap), YP w h → h.Ns mainGlobals mg → mg d.name = some (.ref fa) →
      ∃ (K : PySem.W.Frag) (fd : FuncData) (m : List D → R D), K.In h ∧ (∀ p ∈ tf, h.get? (He.cT K p.1).2 = some { cls := .none, data := .fields #[] }) ∧ (∀ p ∈ tf, K.lookup (He.cT K p.1).2 = none) ∧ (∀ p ∈ tf, PySem.W.codeHdIn K (He.cT K p.1).1 (He.cT K p.1).2 = true) ∧
        (∀ (s : Shared) (u : Value), BindsTo s fd ⟨[u], []⟩ [(x, u)]) ∧ (∀ base : Heap, (∀ p ∈ tf, LamX.TabB base mg (He.cT K p.1).1 (He.cT K p.1).2) → FnOk l.prog w K mg base (L2.CX l.prog w) k fa fd [x] (@spD (tabsOf K tf) K 1 m)) ∧
        ∀ ns : List Int, ns.length ≤ n → m [.scr ns] = .ok (.bl true)) : PySem.W.WalkO q loose XP YP l.row.toRowW d [] (fun f vs => PySem.call f vs) := by
  refine LamX.walk_ofTsE (x := x) (CX := fun w => L2.CX l.prog w) hn hn2 hdf hr (fun w mg fa h Y G hmg => ?_) fun w H s e s' h => ?_
  · obtain ⟨K, fd, m, KX, hT, nT, hC, hb, hF, ht⟩ := F w mg fa h Y G hmg
    have mem : ∀ p ∈ tf.map (fun p => He.cT K p.1), ∃ z ∈ tf, p = He.cT K z.1 := fun p hp => by
      obtain ⟨z, hz, e⟩ := List.mem_map.mp hp
      exact ⟨z, hz, e.symm⟩
    refine ⟨K, KX, fd, tf.map (fun p => He.cT K p.1), @spD (tabsOf K tf) K 1 m, fun p hp => ?_, fun p hp => ?_, fun p hp => ?_, hb, fun H a ns hl _ hH hS => ?_, fun base _ _ hB => hF base fun p hp => hB _ (List.mem_map.mpr ⟨p, hp, rfl⟩)⟩
    · obtain ⟨z, hz, rfl⟩ := mem p hp
      exact hT z hz
    · obtain ⟨z, hz, rfl⟩ := mem p hp
      exact nT z hz
    · obtain ⟨z, hz, rfl⟩ := mem p hp
      exact PySem.W.codeHd_of_K KX (hC z hz)
    · letI : Tabs := tabsOf K tf
      have hAll : ∀ T ∈ Tabs.all, H T = some (.tbl #[]) := fun T hT => by
        obtain ⟨z, hz, rfl⟩ := List.mem_map.mp hT
        exact hH _ (List.mem_map.mpr ⟨z, hz, rfl⟩)
      have out : ∀ {a : Addr} {u : HO}, H a = some u → (∀ ps, u ≠ .tbl ps) → del H Tabs.all a = some u := fun {a u} e hu => by
        rw [del_out]
        · exact e
        · intro z
          rw [hAll a z] at e
          exact hu _ (Option.some.inj e).symm
      refine ⟨del H Tabs.all, [.scr ns], fun b o e => ?_, fun T hT => ⟨del_in hT, #[], hAll T hT, trivial, fun pos cv h => ?_⟩, .cons (.scr ?_) .nil, rfl, ?_⟩
      · unfold del at e
        split at e
        · cases e
        · exact e
      · simp [codeAmong] at h
      · rcases hS with (h | ⟨o, h⟩) | h
        · exact .inl (.inl (out h fun ps z => by cases z))
        · exact .inl (.inr ⟨o, out h fun ps z => by cases z⟩)
        · exact .inr h
      · rw [ht ns hl]
        intro v F' H' g r
        cases r
        rfl
  · obtain ⟨_, _, _, _, _, _, _, _, _, _, _, hE⟩ := h
    exact hE.2
end DL

set_option Elab.async false
set_option linter.all false
set_option maxRecDepth 100000
set_option maxHeartbeats 2000000
/-! The lambdas of a text: found by a path; a table of what they do. -/
namespace DL
open PySem PySem.Spec PyProof.Rows L2
open Evl (Ex)
def noE : Expr := .Constant .none 0 ⟨0, 0, 0, 0⟩
def pSub : Expr → Nat → Expr
  | .Call f as _ _, i => (f :: as).getD i noE
  | .List es _, i => es.getD i noE
  | .Tuple es _ _, i => es.getD i noE
  | .BoolOp _ es _, i => es.getD i noE
  | .UnaryOp _ e _, _ => e
  | .Compare a _ es _, i => (a :: es).getD i noE
  | .Subscript a b _, i => [a, b].getD i noE
  | .BinOp a _ b _, i => [a, b].getD i noE
  | _, _ => noE
def pPath : Expr → List Nat → Expr
  | e, [] => e
  | e, i :: r => pPath (pSub e i) r
def pVal : Stmt → Expr
  | .Assign _ e _ => e
  | .Expr e _ => e
  | .Return (some e) _ => e
  | .If t _ _ _ => t
  | _ => noE
def pBody : Stmt → List Stmt
  | .For _ _ b _ _ => b
  | .If _ b _ _ => b
  | .While _ b _ _ => b
  | _ => []
def pElse : Stmt → List Stmt
  | .If _ _ b _ => b
  | _ => []
def pSt (b : List Stmt) (i : Nat) : Stmt := b.getD i (.Pass ⟨0, 0, 0, 0⟩)
def mkLam (i : Nat) (q : Str) (e : Expr) (names : List Str) : Lam := match e with
  | .Lambda p b s _ => ⟨i, lamQual q, p, b, s, names⟩
  | _ => ⟨i, lamQual q, ⟨[], [], none, [], [], none, []⟩, noE, default, names⟩
open Classical in
noncomputable def ltOf (tab : List (Lam × (List D → R D))) : Lam → List D → R D := fun l ds => match tab[l.id]? with
  | some p => if l = p.1 then p.2 ds else .bad
  | none => .bad
theorem ltOf_at {tab : List (Lam × (List D → R D))} {l : Lam} {f : List D → R D} (h : tab[l.id]? = some (l, f)) (ds : List D) : ltOf tab l ds = f ds := by
  unfold ltOf
  rw [h]
  exact if_pos rfl
variable [Tabs]
theorem LamDen.mono {P : Program} {w : World} {K : PySem.W.Frag} {mg : Str → Option Value} {base : Heap} {j k : Nat} {l : Lam} {f : List D → R D} (h : LamDen P w K mg base j l f) (hjk : j ≤ k) : LamDen P w K mg base k l f := by
  obtain ⟨fb, h1, h2⟩ := h.body
  exact ⟨h.ok, h.nd, h.bind, fb, h1, fun Y W C => h2 Y W ⟨C.prog, C.wd, C.K, C.mg, C.bs, C.hN, C.hsc, C.nd, C.calm, C.room.mono hjk, C.takes⟩⟩
theorem ltOf_den {P : Program} {w : World} {K : PySem.W.Frag} {mg : Str → Option Value} {base : Heap} {k : Nat} {tab : List (Lam × (List D → R D))} (h : ∀ (i : Nat) p, tab[i]? = some p → LamDen P w K mg base k p.1 p.2) (l : Lam) (ds : List D) (n : ltOf tab l ds ≠ .bad) : LamDen P w K mg base k l (ltOf tab l) := by
  cases e : tab[l.id]? with
  | none =>
    refine absurd ?_ n
    unfold ltOf
    rw [e]
  | some p =>
    by_cases el : l = p.1
    · have : ltOf tab l = p.2 := by
        funext ds
        exact ltOf_at (by rw [e]; cases p; cases el; rfl) ds
      rw [this, el]
      exact h _ _ e
    · refine absurd ?_ n
      unfold ltOf
      rw [e]
      exact if_neg el
section
variable {P : Program} {w : World} {K : PySem.W.Frag} {mg : Str → Option Value} {base : Heap} {X : Cx} {W : WX} {N : List Str} {sc : Scope} {k : Nat} {pos : Pos}
/-- x(), x a lambda that this def got -/
theorem xlamC (C : Ctx P w K mg base X W N sc k) (i : Nat) {x : Str} {j : Nat} {LT : Lam → List D → R D} {p1 p2 : Pos} (hT : ∀ l ds, LT l ds ≠ .bad → LamDen P w K mg base j l (LT l)) (hk : j + 1 ≤ k) (h : N[i]? = some x) (hv : visB sc x = true) (hd : (x == ("__debug__" : Str)) = false := by decide) (hcd : (x == ("__classdict__" : Str)) = false := by decide) :
    DE X W (.Call (.Name x p1) [] [] p2) (eLam LT i) := by
  have eP := C.prog
  have ew := C.wd
  have eK := C.K
  have em := C.mg
  have eb := C.bs
  subst eP ew eK em eb
  exact de_lam hT (C.room.mono hk) C.takes (C.at h) (C.vis hv) hd hcd
end
end DL

set_option Elab.async false
set_option linter.all false
set_option maxRecDepth 100000
set_option maxHeartbeats 2000000
/-! Texts: str(i), sep.join(xs), x.split(sep), int(x), signs of a text, its slices. -/
namespace DL
open PySem PySem.Spec PyProof.Rows L2
open Evl (Ex)
def asStrs : List D → Option (List Str)
  | [] => some []
  | .str x :: r => (asStrs r).map (x :: ·)
  | _ => none
theorem asStrs_eq : ∀ {l : List D} {ys : List Str}, asStrs l = some ys → l = ys.map D.str
  | [], ys, h => by cases h; rfl
  | d :: r, ys, h => by
    cases d with
    | str x =>
      have h : (asStrs r).map (x :: ·) = some ys := h
      cases e : asStrs r with
      | none => rw [e] at h; cases h
      | some zs => rw [e] at h; cases h; rw [asStrs_eq e]; rfl
    | _ => cases h
@[simp] theorem asStrs_map (ys : List Str) : asStrs (ys.map D.str) = some ys := by
  induction ys with
  | nil => rfl
  | cons y r ih => simp [asStrs, ih]
@[simp] theorem asStrs_mapf {α : Type} (f : α → Str) (l : List α) : asStrs (l.map fun a => D.str (f a)) = some (l.map f) := by
  induction l with
  | nil => rfl
  | cons y r ih => simp [asStrs, ih]
def gStr : List D → Option D
  | [.int i] => if decide (0 ≤ i) && decide (i < 1000) then some (.str (toString i)) else none
  | _ => none
def gIntS : List D → Option D
  | [.str a] => if a.length ≤ 600 then (PySem.intText? a).map D.int else none
  | _ => none
def gInS : D → D → Option D
  | .str x, .str z => match x.cps.toList with
    | [c] => some (.bl (decide (c ∈ z.cps.toList)))
    | _ => none
  | _, _ => none
def gIxS : D → D → Option D
  | .str z, .int i => if z.length ≤ 100000 then (atI z.cps.toList i).map fun c => .str ⟨#[c]⟩ else none
  | _, _ => none
def gJoin (a : Str) : D → Option D
  | .lst l => match asStrs l with
    | some ys => if (ys.map (·.length)).sum + ys.length * a.length ≤ 100000 then some (.str (Txt.join a ys)) else none
    | none => none
  | _ => none
def gSplit (a : Str) : D → Option D
  | .str b => if (!(b.length == 0)) && decide (a.length ≤ 90000) then some (.lst ((Txt.split a b).map D.str)) else none
  | _ => none
/-- a text's method of one argument -/
def eM1 (g : Str → D → Option D) (fo fe : Env → R D) : Env → R D := fun ρ => (fo ρ).bind fun a => match a with
  | .str z => (fe ρ).bind fun b => R.lift (g z b)
  | _ => .bad
def gListS : List D → Option D
  | [.str z] => if z.length ≤ 100000 then some (.lst (z.cps.toList.map fun c => .str ⟨#[c]⟩)) else none
  | _ => none
def itemsS : D → R (List D)
  | .str z => .ok (z.cps.toList.map fun c => .str ⟨#[c]⟩)
  | _ => .bad
def iStrD (f : Env → R D) : Env → R (List D) := fun ρ => (f ρ).bind itemsS
def eSlS (f : Env → R D) (lo hi : Env → R (Option Int)) : Env → R D := fun ρ => (f ρ).bind fun d => (lo ρ).bind fun l => (hi ρ).bind fun h => match d with
  | .str z => if z.length ≤ 100000 then .ok (.str (Txt.slice z l h)) else .bad
  | _ => .bad
variable [Tabs]
section
variable {K : PySem.W.Frag}
theorem cs_str : CallS K (fun xs H Q => ∃ i, xs = [.int i] ∧ i.natAbs.log2 < 1920 ∧ Q (.str (toString i)) H) gStr := fun F H xs as d Q s r e q => by
  unfold gStr at e
  split at e
  · rename_i i
    split at e
    · rename_i hc
      cases e
      rw [Bool.and_eq_true] at hc
      have h0 := of_decide_eq_true hc.1
      have h1 := of_decide_eq_true hc.2
      cases r with
      | cons r1 rr =>
        cases rr
        cases r1
        refine ⟨i, rfl, ?_, q _ F H (Grow.refl s) (.str _)⟩
        have h2 : i.natAbs < 1000 := by omega
        have h3 : i.natAbs.log2 ≤ i.natAbs := Nat.log2_le_self _
        omega
    · cases e
  · cases e
theorem cs_intS : CallS K (fun xs H Q => ∃ a n, xs = [.str a] ∧ PySem.intText? a = some n ∧ a.length ≤ 640 ∧ Q (.int n) H) gIntS := fun F H xs as d Q s r e q => by
  unfold gIntS at e
  split at e
  · rename_i a
    split at e
    · rename_i hc
      cases ei : PySem.intText? a with
      | none => rw [ei] at e; cases e
      | some n =>
        rw [ei] at e
        cases e
        cases r with
        | cons r1 rr =>
          cases rr
          cases r1
          exact ⟨a, n, rfl, ei, by omega, q _ F H (Grow.refl s) (.int _)⟩
    · cases e
  · cases e
theorem str_one {x : Str} {c : Nat} (h : x.cps.toList = [c]) : x = ⟨#[c]⟩ := by
  obtain ⟨a⟩ := x
  have h : a.toList = [c] := h
  congr 1
  exact Array.toList_inj.mp h
theorem ops_inS : OpS K (fun x y H Q => ∃ (c : Nat) (z : Str), x = .str ⟨#[c]⟩ ∧ y = .str z ∧ Q (.bl (decide (c ∈ z.cps.toList))) H) gInS := fun F H x y a b d Q s ra rb e q => by
  unfold gInS at e
  split at e
  · rename_i x z
    split at e
    · rename_i c hc
      cases e
      cases ra
      cases rb
      exact ⟨c, z, by rw [str_one hc], rfl, q _ F H (Grow.refl s) (.bl _)⟩
    · cases e
  · cases e
theorem ops_ixS : OpS K rIxS gIxS := fun F H x y a b d Q s ra rb e q => by
  unfold gIxS at e
  split at e
  · rename_i z i
    split at e
    · rename_i hz
      cases ec : atI z.cps.toList i with
      | none => rw [ec] at e; cases e
      | some c =>
        rw [ec] at e
        cases e
        cases ra
        cases rb
        exact ⟨z, i, c, rfl, rfl, sz hz, ec, q _ F H (Grow.refl s) (.str _)⟩
    · cases e
  · cases e
theorem rep_signs {F : Hp} (z : Str) : Reps K F (DR.signs z) (z.cps.toList.map fun c => .str ⟨#[c]⟩) := by
  unfold DR.signs
  induction z.cps.toList with
  | nil => exact .nil
  | cons c r ih => exact .cons (.str _) ih
theorem cs_listS : CallS K (fun xs H Q => ∃ z, xs = [.str z] ∧ z.length ≤ sizeLine ∧ ∀ p, H p = none → Q (.ref p) (upd H p (.lst (DR.signs z)))) gListS := fun F H xs as d Q s r e q => by
  unfold gListS at e
  split at e
  · rename_i z
    split at e
    · rename_i hz
      cases e
      cases r with
      | cons r1 rr =>
        cases rr
        cases r1
        exact ⟨z, rfl, sz hz, fun p hp => q _ _ _ (Grow.add s hp) (.lst upd_same (rep_signs z))⟩
    · cases e
  · cases e
end
section
variable {X : Cx} {W : WX} {pos : Pos}
theorem m1_of {r : V → List V → Hp → VK → Prop} {g : Str → D → Option D} {fo fe : Env → R D} {σ : L2.St} {H : Hp} {Q : VK}
    (hr : ∀ F H z y b d Q, Ex F H → Rep X.K F y b → g z b = some d → (∀ v F' H', Grow F H F' H' → Rep X.K F' v d → Q v H') → r (.str z) [y] H Q) (hh : tD X.K W (eM1 g fo fe) σ H Q) : tM1 r (tD X.K W fo) (tD X.K W fe) σ H Q := by
  obtain ⟨F0, H0, F, ρ, S, q⟩ := hh
  unfold eM1 at q
  show tD X.K W fo σ H fun x H1 => (∃ a, x = .str a) ∧ tD X.K W fe σ H1 fun y H2 => r x [y] H2 Q
  cases ea : fo ρ with
  | bad => rw [ea] at q; exact q.elim
  | exc c => rw [ea] at q; exact tD_exc S ea q
  | ok a =>
    rw [ea, R.bind_ok] at q
    refine tD_ok S ea fun v F1 H1 g1 r1 => ?_
    cases r1 with
    | str z =>
      simp only at q
      refine ⟨⟨z, rfl⟩, ?_⟩
      cases eb : fe ρ with
      | bad => rw [eb] at q; exact q.elim
      | exc c => rw [eb] at q; exact tD_exc (S.go g1) eb fun F2 H2 g2 => q F2 H2 (g1.trans g2)
      | ok b =>
        rw [eb, R.bind_ok] at q
        refine tD_ok (S.go g1) eb fun w F2 H2 g2 r2 => ?_
        cases eg : g z b with
        | none => rw [eg] at q; exact q.elim
        | some d =>
          rw [eg] at q
          exact hr F2 H2 z w b d Q g2.sub r2 eg fun v F3 H3 g3 r3 => q v F3 H3 ((g1.trans g2).trans g3) r3
    | _ => exact q.elim
theorem de_join {o e : Expr} {apos : Pos} {fo fe : Env → R D} (ho : DE X W o fo) (he : DE X W e fe) (hs : starEach [e] X.env = [(false, eval e X.env)] := by rfl) (hbase : attributeBase o "join" X.env (eval o X.env) = eval o X.env := by rfl) (hline : (apos.endLine == pos.line) = true := by rfl) :
    DE X W (.Call (.Attribute o "join" apos) [e] [] pos) (eM1 gJoin fo fe) :=
  pe_imp (pe_m1 PySem.F.slot_str_join PySem.F.type_str_join mt_join ho he hs hbase hline) fun σ H Q hh => m1_of (fun F H z y b d Q s rb e q => by
    unfold gJoin at e
    split at e
    · rename_i l
      cases es : asStrs l with
      | none => rw [es] at e; cases e
      | some ys =>
        rw [es] at e
        simp only at e
        split at e
        · rename_i hc
          cases e
          cases asStrs_eq es
          cases rb with
          | lst e1 k1 => exact ⟨z, _, ys, rfl, rfl, .inl (SqL.of (by rw [← k1.of_strs]; exact s _ _ e1)), by omega, q _ F H (Grow.refl s) (.str _)⟩
        · cases e
    · cases e) hh
theorem de_split {o e : Expr} {apos : Pos} {fo fe : Env → R D} (ho : DE X W o fo) (he : DE X W e fe) (hs : starEach [e] X.env = [(false, eval e X.env)] := by rfl) (hbase : attributeBase o "split" X.env (eval o X.env) = eval o X.env := by rfl) (hline : (apos.endLine == pos.line) = true := by rfl) :
    DE X W (.Call (.Attribute o "split" apos) [e] [] pos) (eM1 gSplit fo fe) :=
  pe_imp (pe_m1 PySem.F.slot_str_split PySem.F.type_str_split mt_split ho he hs hbase hline) fun σ H Q hh => m1_of (fun F H z y b d Q s rb e q => by
    unfold gSplit at e
    split at e
    · rename_i b
      split at e
      · rename_i hc
        cases e
        rw [Bool.and_eq_true] at hc
        cases rb
        have h1 := of_decide_eq_true hc.2
        refine ⟨z, b, rfl, rfl, by simpa using hc.1, sz (by omega), fun p hp => q _ _ _ (Grow.add s hp) (.lst upd_same (Reps.strs _))⟩
      · cases e
    · cases e) hh
theorem good_str {K : PySem.W.Frag} {F : Hp} (z : Str) : GoodF K (Its z) F (z.cps.toList.map fun c => .str ⟨#[c]⟩) := by
  have hl : (z.cps.toList.map fun c => D.str ⟨#[c]⟩).length = z.cps.size := by simp
  refine ⟨fun i F' H' e s hi => ?_, fun F' H' e s => ?_, fun i F' H' x H'' e s hi y => ?_⟩
  · show i < z.cps.size
    omega
  · show z.cps.size ≤ _
    omega
  · obtain ⟨rfl, c, hc, rfl⟩ := y
    refine ⟨F', .str ⟨#[c]⟩, ?_, Grow.refl s, .str _⟩
    rw [List.getElem?_map, Array.getElem?_toList, hc]
    rfl
theorem di_str {tg l : Expr} {f : Env → R D} (hl : DE X W l f) : DI X W tg l (iStrD f) := by
  refine pi_imp (pi_str hl) fun σ H Q ⟨F0, H0, F, ρ, S, q⟩ => ?_
  unfold iStrD at q
  show tD X.K W f σ H fun v H1 => ∃ x, v = .str x ∧ Q (Its x) H1
  cases ef : f ρ with
  | bad => rw [ef] at q; exact q.elim
  | exc c => rw [ef] at q; exact tD_exc S ef q
  | ok d =>
    rw [ef, R.bind_ok] at q
    refine tD_ok S ef fun v F1 H1 g1 r1 => ?_
    cases r1 with
    | str z => exact ⟨z, rfl, q _ F1 H1 g1 (good_str z)⟩
    | _ => exact q.elim
theorem de_sliceS {e : Expr} {lo hi : Option Expr} {p2 : Pos} {f : Env → R D} {fl fh : Env → R (Option Int)} (h : DE X W e f) (hl : PO X lo (tPD X.K W fl)) (hh : PO X hi (tPD X.K W fh)) : DE X W (.Subscript e (.Slice lo hi none p2) pos) (eSlS f fl fh) := by
  refine pe_imp (pe_slice C8.sl_txt h hl hh) fun σ H Q ⟨F0, H0, F, ρ, S, q⟩ => ?_
  unfold eSlS at q
  show tD X.K W f σ H fun x H1 => tPD X.K W fl σ H1 fun l H2 => tPD X.K W fh σ H2 fun u H3 => C8.rSlX x l u H3 Q
  cases ef : f ρ with
  | bad => rw [ef] at q; exact q.elim
  | exc c => rw [ef] at q; exact tD_exc S ef q
  | ok d =>
    rw [ef, R.bind_ok] at q
    refine tD_ok S ef fun v F1 H1 g1 r1 => ⟨F0, H0, F1, ρ, S.go g1, ?_⟩
    cases el : fl ρ with
    | bad => rw [el] at q; exact q.elim
    | exc c => rw [el] at q; exact fun F2 H2 g2 => q F2 H2 (g1.trans g2)
    | ok l =>
      rw [el, R.bind_ok] at q
      refine fun F2 H2 g2 => ⟨F0, H0, F2, ρ, (S.go g1).go g2, ?_⟩
      cases eh : fh ρ with
      | bad => rw [eh] at q; exact q.elim
      | exc c => rw [eh] at q; exact fun F3 H3 g3 => q F3 H3 ((g1.trans g2).trans g3)
      | ok u =>
        rw [eh, R.bind_ok] at q
        refine fun F3 H3 g3 => ?_
        have G := (g1.trans g2).trans g3
        cases r1 with
        | str z =>
          simp only at q
          by_cases hz : z.length ≤ 100000
          · rw [if_pos hz] at q
            exact ⟨z, rfl, sz hz, q _ F3 H3 G (.str _)⟩
          · rw [if_neg hz] at q
            exact q.elim
        | _ => exact q.elim
theorem de_inS {a b : Expr} {fa fb : Env → R D} (ha : DE X W a fa) (hb : DE X W b fb) (hm : behindInMarks .In b = false := by rfl) : DE X W (.Compare a [.In] [b] pos) (op2 gInS fa fb) := de_cmp op_in_sign ops_inS ha hb hm
theorem dt_inS {a b : Expr} {fa fb : Env → R D} (ha : DE X W a fa) (hb : DE X W b fb) (hm : behindInMarks .In b = false := by rfl) : DT X W (.Compare a [.In] [b] pos) (asB (op2 gInS fa fb)) := dt_cmp op_in_sign ops_inS ha hb hm
theorem de_ixS {a b : Expr} {fa fb : Env → R D} (ha : DE X W a fa) (hb : DE X W b fb) (hs : PlainIx b := by exact fun _ _ => rfl) : DE X W (.Subscript a b pos) (op2 gIxS fa fb) :=
  pe_imp (pe_ix ix_str ha hb hs) fun _ _ _ h => op2_of ops_ixS h
end
section
variable {P : Program} {w : World} {K : PySem.W.Frag} {mg : Str → Option Value} {base : Heap} {X : Cx} {W : WX} {N : List Str} {sc : Scope} {k : Nat} {pos : Pos} {e : Expr} {es : List Expr} {p : Pos} {as : Env → R (List D)}
theorem xstrI (C : Ctx P w K mg base X W N sc k) (hm : mg "str" = none) (hg : glB sc "str" = true) (ha : DA X W (e :: es) as) (he : starEach (e :: es) X.env = (false, eval e X.env) :: starEach es X.env := by rfl) (hpl : (backTo pos (starEach es X.env)).any (·.1) = false := by rfl) :
    DE X W (.Call (.Name "str" p) (e :: es) [] pos) (eArgs gStr as) := de_callTy call_str_int cs_str (C.gl hg) (C.no hm) (by decide +kernel) ha (he := he) (hpl := hpl)
theorem xintS (C : Ctx P w K mg base X W N sc k) (hm : mg "int" = none) (hg : glB sc "int" = true) (ha : DA X W (e :: es) as) (he : starEach (e :: es) X.env = (false, eval e X.env) :: starEach es X.env := by rfl) (hpl : (backTo pos (starEach es X.env)).any (·.1) = false := by rfl) :
    DE X W (.Call (.Name "int" p) (e :: es) [] pos) (eArgs gIntS as) := de_callTy call_int_str cs_intS (C.gl hg) (C.no hm) (by decide +kernel) ha (he := he) (hpl := hpl)
theorem xlistS (C : Ctx P w K mg base X W N sc k) (hm : mg "list" = none) (hg : glB sc "list" = true) (ha : DA X W (e :: es) as) (he : starEach (e :: es) X.env = (false, eval e X.env) :: starEach es X.env := by rfl) (hpl : (backTo pos (starEach es X.env)).any (·.1) = false := by rfl) :
    DE X W (.Call (.Name "list" p) (e :: es) [] pos) (eArgs gListS as) := de_callTy (DR.call_list_text C.calm) cs_listS (C.gl hg) (C.no hm) (by decide +kernel) ha (he := he) (hpl := hpl)
end
end DL

set_option Elab.async false
set_option linter.all false
set_option maxRecDepth 100000
set_option maxHeartbeats 1000000
/-! Evaluating denotations. -/
namespace DL
variable [Tabs]
open PySem L2
section
variable {ρ : DL.Env}
@[simp] theorem ev_var (i : Nat) : eVar i ρ = (match ρ[i]? with | some (.val d) => .ok d | _ => .bad) := rfl
@[simp] theorem ev_c (d : D) : eC d ρ = .ok d := rfl
@[simp] theorem ev_nil : aNil ρ = .ok [] := rfl
@[simp] theorem ev_cons (f : DL.Env → R D) (g : DL.Env → R (List D)) : aCons f g ρ = (f ρ).bind fun a => (g ρ).bind fun as => .ok (a :: as) := rfl
@[simp] theorem ev_args (g : List D → Option D) (f : DL.Env → R (List D)) : eArgs g f ρ = (f ρ).bind fun as => R.lift (g as) := rfl
@[simp] theorem ev_op2 (g : D → D → Option D) (fa fb : DL.Env → R D) : op2 g fa fb ρ = (fa ρ).bind fun a => (fb ρ).bind fun b => R.lift (g a b) := rfl
@[simp] theorem ev_ch2 (g g' : D → D → Option D) (fa fb fc : DL.Env → R D) : ch2 g g' fa fb fc ρ = (fa ρ).bind fun a => (fb ρ).bind fun b => (R.lift (g a b)).bind fun z => match z with
  | .bl true => (fc ρ).bind fun c => R.lift (g' b c)
  | .bl false => .ok (.bl false)
  | _ => .bad := rfl
@[simp] theorem ev_asB (f : DL.Env → R D) : asB f ρ = (f ρ).bind fun d => match d with
  | .bl b => .ok b
  | _ => .bad := rfl
@[simp] theorem ev_bNot (f : DL.Env → R Bool) : bNot f ρ = (f ρ).bind fun b => .ok (!b) := rfl
@[simp] theorem ev_bAnd (f g : DL.Env → R Bool) : bAnd f g ρ = (f ρ).bind fun b => if b = true then g ρ else .ok false := rfl
@[simp] theorem ev_bOr (f g : DL.Env → R Bool) : bOr f g ρ = (f ρ).bind fun b => if b = true then .ok true else g ρ := rfl
@[simp] theorem ev_bYes : bYes ρ = .ok true := rfl
@[simp] theorem ev_if (c : DL.Env → R Bool) (f g : DL.Env → R D) : eIf c f g ρ = (c ρ).bind fun b => if b = true then f ρ else g ρ := rfl
@[simp] theorem ev_vAnd (f g : DL.Env → R D) : vAnd f g ρ = (f ρ).bind fun d => match d with
  | .bl true => g ρ
  | .bl false => .ok (.bl false)
  | _ => .bad := rfl
@[simp] theorem ev_vOr (f g : DL.Env → R D) : vOr f g ρ = (f ρ).bind fun d => match d with
  | .bl false => g ρ
  | .bl true => .ok (.bl true)
  | _ => .bad := rfl
@[simp] theorem ev_vNot (f : DL.Env → R D) : vNot f ρ = (f ρ).bind fun d => match d with
  | .bl b => .ok (.bl (!b))
  | _ => .bad := rfl
@[simp] theorem ev_neg (f : DL.Env → R D) : eNeg f ρ = (f ρ).bind fun d => match d with
  | .int i => .ok (.int (-i))
  | _ => .bad := rfl
@[simp] theorem ev_call (f : List D → R D) (as : DL.Env → R (List D)) : eCall f as ρ = (as ρ).bind f := rfl
@[simp] theorem ev_lst (f : DL.Env → R Ow) : eLst f ρ = (f ρ).bind fun o => match o with
  | .lst ds => .ok (.lst ds)
  | _ => .bad := rfl
@[simp] theorem ev_oArgs (f : DL.Env → R (List D)) : oArgs f ρ = (f ρ).bind fun as => if as.length ≤ 100000 then .ok (.lst as) else .bad := rfl
@[simp] theorem ev_oCall (g : List D → Option (List D)) (f : DL.Env → R (List D)) : oCall g f ρ = (f ρ).bind fun as => (R.lift (g as)).bind fun l => .ok (.lst l) := rfl
@[simp] theorem ev_oLc (f : DL.Env → R (List D)) (g : D → DL.Env → Option DL.Env) (t : DL.Env → R Bool) (e : DL.Env → R D) (vs : List Nat) : oLc f g t e vs ρ = (f ρ).bind fun items => if items.length ≤ 100000 then (lcLoop g t e (wipeE ρ vs) items).bind fun ys => .ok (.lst ys) else .bad := rfl
@[simp] theorem ev_oSrtSet (f : DL.Env → R D) : oSrtSet f ρ = (f ρ).bind fun d => match seqInts d with
  | some ns => if ns.length < 64 then .ok (.lst ((srtU ns).map D.int)) else .bad
  | none => .bad := rfl
@[simp] theorem ev_iSeq (f : DL.Env → R D) : iSeqD f ρ = (f ρ).bind itemsD := rfl
@[simp] theorem ev_iRange (f : DL.Env → R (List D)) : iRange f ρ = (f ρ).bind fun as => match as with
  | [.int j] => if decide (-100000 ≤ j) && decide (j ≤ 100000) then .ok (rangeD 0 j) else .bad
  | [.int i, .int j] => if (decide (-100000 ≤ i) && decide (i ≤ 100000)) && (decide (-100000 ≤ j) && decide (j ≤ 100000)) then .ok (rangeD i j) else .bad
  | _ => .bad := rfl
@[simp] theorem ev_oRange (f : DL.Env → R (List D)) : oRange f ρ = (f ρ).bind fun as => match as with
  | [.int j] => if decide (0 ≤ j) && decide (j ≤ 100000) then .ok (.lst (rangeD 0 j)) else .bad
  | [.int i, .int j] => if decide (0 ≤ i) && decide (i ≤ 100000) && decide (0 ≤ j) && decide (j ≤ 100000) then .ok (.lst (rangeD i j)) else .bad
  | _ => .bad := rfl
@[simp] theorem ev_seq (f g : SD) : sSeq f g ρ = (match f ρ with
  | some (.nx ρ') => g ρ'
  | o => o) := rfl
@[simp] theorem ev_sNil : sNil ρ = some (.nx ρ) := rfl
@[simp] theorem ev_ret (f : DL.Env → R D) : sRet f ρ = (match f ρ with
  | .ok d => some (.rt d)
  | .exc c => some (.xc c ρ)
  | .bad => none) := rfl
@[simp] theorem ev_drop (f : DL.Env → R D) : sDrop f ρ = (match f ρ with
  | .ok d => some (.nx ρ)
  | .exc c => some (.xc c ρ)
  | .bad => none) := rfl
@[simp] theorem ev_sif (c : DL.Env → R Bool) (f g : SD) : sIf c f g ρ = (match c ρ with
  | .ok b => if b = true then f ρ else g ρ
  | .exc c => some (.xc c ρ)
  | .bad => none) := rfl
@[simp] theorem ev_set (i : Nat) (f : DL.Env → R D) : sSet i f ρ = (match f ρ with
  | .ok d => some (.nx (ρ.set i (.val d)))
  | .exc c => some (.xc c ρ)
  | .bad => none) := rfl
@[simp] theorem ev_own (i : Nat) (f : DL.Env → R Ow) : sOwn i f ρ = (match f ρ with
  | .ok o => some (.nx (ρ.set i (.own o)))
  | .exc c => some (.xc c ρ)
  | .bad => none) := rfl
@[simp] theorem ev_frz (i : Nat) (g : SD) : sFrz i g ρ = (match ρ[i]? with
  | some (.own o) => g (ρ.set i (.val (owD o)))
  | _ => none) := rfl
@[simp] theorem ev_asg (f : DL.Env → R D) (g : D → DL.Env → Option DL.Env) : sAsg f g ρ = (match f ρ with
  | .ok d => (g d ρ).map .nx
  | .exc c => some (.xc c ρ)
  | .bad => none) := rfl
@[simp] theorem ev_for (f : DL.Env → R (List D)) (g : D → DL.Env → Option DL.Env) (b : SD) : sFor f g b ρ = (match f ρ with
  | .ok items => forLoop g b items ρ
  | .exc c => some (.xc c ρ)
  | .bad => none) := rfl
@[simp] theorem ev_raise (C : Addr) : sRaise C ρ = some (.xc C ρ) := rfl
@[simp] theorem ev_par (is : List Nat) (f : DL.Env → R (List Slot)) : sPar is f ρ = (match f ρ with
  | .ok cs => if cs.length = is.length then some (.nx (setC is cs ρ)) else none
  | .exc c => some (.xc c ρ)
  | .bad => none) := rfl
@[simp] theorem ev_mNil : mNil ρ = .ok [] := rfl
@[simp] theorem ev_mVal (f : DL.Env → R D) (g : DL.Env → R (List Slot)) : mVal f g ρ = (f ρ).bind fun a => (g ρ).bind fun as => .ok (.val a :: as) := rfl
@[simp] theorem ev_mOwn (f : DL.Env → R Ow) (g : DL.Env → R (List Slot)) : mOwn f g ρ = (f ρ).bind fun a => (g ρ).bind fun as => .ok (.own a :: as) := rfl
@[simp] theorem ev_app (i : Nat) (f : DL.Env → R D) : sApp i f ρ = (match ρ[i]? with
  | some (.own (.lst ds)) => (match f ρ with
    | .ok d => if ds.length < 100000 then some (.nx (ρ.set i (.own (.lst (ds ++ [d]))))) else none
    | .exc c => some (.xc c ρ)
    | .bad => none)
  | _ => none) := rfl
@[simp] theorem ev_setC0 : setC [] [] ρ = ρ := rfl
@[simp] theorem ev_setC (i : Nat) (is : List Nat) (c : Slot) (cs : List Slot) : setC (i :: is) (c :: cs) ρ = setC is cs (ρ.set i c) := rfl
@[simp] theorem ev_gSet (i : Nat) (d : D) : gSet i d ρ = some (ρ.set i (.val d)) := rfl
@[simp] theorem ev_gsNil : gsNil [] ρ = some ρ := rfl
@[simp] theorem ev_gsCons (f : D → DL.Env → Option DL.Env) (g : List D → DL.Env → Option DL.Env) (d : D) (r : List D) : gsCons f g (d :: r) ρ = (f d ρ).bind (g r) := rfl
@[simp] theorem ev_gTup (n : Nat) (g : List D → DL.Env → Option DL.Env) (ds : List D) : gTupT n g (.tup ds) ρ = (if ds.length = n then g ds ρ else none) := rfl
@[simp] theorem ev_wipe0 : wipeE ρ [] = ρ := rfl
@[simp] theorem ev_wipe (v : Nat) (vs : List Nat) : wipeE ρ (v :: vs) = (wipeE ρ vs).set v .un := rfl
@[simp] theorem ev_sl (f : DL.Env → R D) (lo hi : DL.Env → R (Option Int)) : eSl f lo hi ρ = (f ρ).bind fun d => (lo ρ).bind fun l => (hi ρ).bind fun h => match d with
  | .tup xs => .ok (.tup (cutD xs l h))
  | .lst xs => .ok (.lst (cutD xs l h))
  | _ => .bad := rfl
@[simp] theorem ev_part0 : oPart none ρ = .ok none := rfl
@[simp] theorem ev_part (f : DL.Env → R D) : oPart (some f) ρ = (f ρ).bind fun d => match d with
    | .int i => .ok (some i)
    | _ => .bad := rfl
@[simp] theorem ev_iZip (f : DL.Env → R (List D)) : iZipD f ρ = (f ρ).bind fun as => match as with
  | [.lst l, .lst m] => .ok (zipD l m)
  | [.tup l, .tup m] => .ok (zipD l m)
  | _ => .bad := rfl
@[simp] theorem ev_index (fo : DL.Env → R D) (fa : DL.Env → R (List D)) : eIndex fo fa ρ = (fo ρ).bind fun o => match o with
  | .lst l => (fa ρ).bind fun as => match as with
    | [y] => if dok 7 y && doks 7 l then (R.lift (idxD l y)).bind fun j => .ok (.int (j : Nat)) else .bad
    | _ => .bad
  | _ => .bad := rfl
@[simp] theorem ev_callV (T : Addr → Option (Nat × (List D → R D))) (ff : DL.Env → R D) (as : DL.Env → R (List D)) : eCallV T ff as ρ = (ff ρ).bind fun d => match d with
  | .ref a => (match T a with
    | some (n, f) => (as ρ).bind fun ds => if ds.length = n then f ds else .bad
    | none => .bad)
  | _ => .bad := rfl
end
@[simp] theorem owD_lst (ds : List D) : owD (.lst ds) = .lst ds := rfl
@[simp] theorem owD_dI (ks : List Int) (vs : List D) : owD (.dI ks vs) = .dI ks vs := rfl
@[simp] theorem fnD_ev (n : Nat) (g : SD) (as : List D) : fnD n g as = (match g (startE n as) with
  | some (.nx _) => .ok .non
  | some (.rt d) => .ok d
  | some (.xc c _) => .exc c
  | _ => .bad) := rfl
@[simp] theorem gI_int (c : Int → Int → Bool) (g : Int → Int → D) (i j : Int) : gI c g (.int i) (.int j) = if c i j then some (g i j) else none := rfl
@[simp] theorem gSub_int (i j : Int) : gSub (.int i) (.int j) = some (.int (i - j)) := rfl
@[simp] theorem gLt_int (i j : Int) : gLt0 (.int i) (.int j) = some (.bl (decide (i < j))) := rfl
@[simp] theorem gLtD_int (i j : Int) : gLt (.int i) (.int j) = some (.bl (decide (i < j))) := rfl
@[simp] theorem gSorted_dI (ks : List Int) (vs : List D) : gSorted [.dI ks vs] = if ks.length < 64 then some ((srtI ks).map D.int) else none := rfl
@[simp] theorem gMinD_2 (i j : Int) : gMinD [.int i, .int j] = some (.int (if j < i then j else i)) := rfl
@[simp] theorem gLe_int (i j : Int) : gLe0 (.int i) (.int j) = some (.bl (decide (i ≤ j))) := rfl
@[simp] theorem gGt_int (i j : Int) : gGt0 (.int i) (.int j) = some (.bl (decide (j < i))) := rfl
@[simp] theorem gGe_int (i j : Int) : gGe0 (.int i) (.int j) = some (.bl (decide (j ≤ i))) := rfl
@[simp] theorem gAdd_int (i j : Int) : gAdd (.int i) (.int j) = some (.int (i + j)) := rfl
@[simp] theorem gAdd_lst (a b : List D) : gAdd (.lst a) (.lst b) = if a.length + b.length ≤ 100000 then some (.lst (a ++ b)) else none := rfl
@[simp] theorem gAdd_tup (a b : List D) : gAdd (.tup a) (.tup b) = if a.length + b.length ≤ 100000 then some (.tup (a ++ b)) else none := rfl
@[simp] theorem gMul_int (i j : Int) : gMul (.int i) (.int j) = if (decide (-(2 ^ 64) < i) && decide (i < 2 ^ 64)) || (decide (-(2 ^ 64) < j) && decide (j < 2 ^ 64)) then some (.int (i * j)) else none := rfl
@[simp] theorem gMod_int (i j : Int) : gMod (.int i) (.int j) = if decide (0 < j) then some (.int (i % j)) else none := rfl
@[simp] theorem gFdivW_int (i j : Int) : gFdivW (.int i) (.int j) = if decide (0 < j) && decide (j < 2 ^ 64) then some (.int (i / j)) else none := rfl
@[simp] theorem gIx_tup (l : List D) (i : Int) : gIx (.tup l) (.int i) = atI l i := rfl
@[simp] theorem gIx_lst (l : List D) (i : Int) : gIx (.lst l) (.int i) = atI l i := rfl
@[simp] theorem gIx_scr (l : List Int) (i : Int) : gIx (.scr l) (.int i) = (atI l i).map D.int := rfl
@[simp] theorem gLen_tup (l : List D) : gLen [.tup l] = some (.int (l.length : Nat)) := rfl
@[simp] theorem gLen_lst (l : List D) : gLen [.lst l] = some (.int (l.length : Nat)) := rfl
@[simp] theorem gLen_scr (l : List Int) : gLen [.scr l] = some (.int (l.length : Nat)) := rfl
@[simp] theorem gAll_lst (l : List D) : gAll [.lst l] = (asBls l).map fun bs => .bl (bs.all id) := rfl
@[simp] theorem gAny_lst (l : List D) : gAny [.lst l] = (asBls l).map fun bs => .bl (bs.any id) := rfl
@[simp] theorem gSum_lst (l : List D) : gSum [.lst l] = (asInts l).map fun ns => .int ns.sum := rfl
@[simp] theorem gTuple_lst (l : List D) : gTuple [.lst l] = some (.tup l) := rfl
@[simp] theorem gTuple_tup (l : List D) : gTuple [.tup l] = some (.tup l) := rfl
@[simp] theorem gList_lst (l : List D) : gList [.lst l] = some l := rfl
@[simp] theorem gList_tup (l : List D) : gList [.tup l] = some l := rfl
@[simp] theorem gTupD_ev (as : List D) : gTupD as = if as.length ≤ 100000 then some (.tup as) else none := rfl
@[simp] theorem gLstD_ev (as : List D) : gLstD as = if as.length ≤ 100000 then some (.lst as) else none := rfl
@[simp] theorem gEq_ev (a b : D) : gEq a b = if dok 8 a && dok 8 b then some (.bl (eqb a b)) else none := rfl
@[simp] theorem gNe_ev (a b : D) : gNe a b = if dok 8 a && dok 8 b then some (.bl (!eqb a b)) else none := rfl
@[simp] theorem gNotIn_ev (x l : D) : gNotIn x l = (gIn x l).bind fun d => match d with
  | .bl b => some (.bl (!b))
  | _ => none := rfl
@[simp] theorem items_tup (l : List D) : itemsD (.tup l) = .ok l := rfl
@[simp] theorem items_lst (l : List D) : itemsD (.lst l) = .ok l := rfl
@[simp] theorem gIsN_b (x y : Bool) : gIsN (.bl x) (.bl y) = some (.bl (decide (x = y))) := rfl
@[simp] theorem gNotN_b (x y : Bool) : gNotN (.bl x) (.bl y) = some (.bl (!decide (x = y))) := rfl
/-! ### isinstance -/
theorem kit_same (a : String) : kitB a a = some true := by
  unfold kitB
  simp
@[simp] theorem isi_tup_tuple (l : List D) : gIsi [.tup l, .ty "tuple"] = some (.bl true) := by simp [gIsi, tyName, kit_same]
@[simp] theorem isi_int_int (i : Int) : gIsi [.int i, .ty "int"] = some (.bl true) := by simp [gIsi, tyName, kit_same]
@[simp] theorem isi_bl_bool (i : Bool) : gIsi [.bl i, .ty "bool"] = some (.bl true) := by simp [gIsi, tyName, kit_same]
theorem kB1 : kitB "int" "bool" = some false := by decide +kernel
theorem kB2 : kitB "bool" "int" = some true := by decide +kernel
theorem kB3 : kitB "list" "tuple" = some false := by decide +kernel
theorem kB4 : kitB "str" "tuple" = some false := by decide +kernel
theorem kB5 : kitB "NoneType" "tuple" = some false := by decide +kernel
theorem kB6 : kitB "int" "tuple" = some false := by decide +kernel
theorem kB7 : kitB "bool" "tuple" = some false := by decide +kernel
theorem kB8 : kitB "tuple" "int" = some false := by decide +kernel
theorem kB9 : kitB "list" "int" = some false := by decide +kernel
theorem kB10 : kitB "str" "int" = some false := by decide +kernel
theorem kB11 : kitB "NoneType" "int" = some false := by decide +kernel
@[simp] theorem isi_int_bool (i : Int) : gIsi [.int i, .ty "bool"] = some (.bl false) := by simp [gIsi, tyName, kB1]
@[simp] theorem isi_bl_int (i : Bool) : gIsi [.bl i, .ty "int"] = some (.bl true) := by simp [gIsi, tyName, kB2]
@[simp] theorem isi_lst_tuple (l : List D) : gIsi [.lst l, .ty "tuple"] = some (.bl false) := by simp [gIsi, tyName, kB3]
@[simp] theorem isi_str_tuple (x : Str) : gIsi [.str x, .ty "tuple"] = some (.bl false) := by simp [gIsi, tyName, kB4]
@[simp] theorem isi_non_tuple : gIsi [.non, .ty "tuple"] = some (.bl false) := by simp [gIsi, tyName, kB5]
@[simp] theorem isi_int_tuple (i : Int) : gIsi [.int i, .ty "tuple"] = some (.bl false) := by simp [gIsi, tyName, kB6]
@[simp] theorem isi_bl_tuple (i : Bool) : gIsi [.bl i, .ty "tuple"] = some (.bl false) := by simp [gIsi, tyName, kB7]
@[simp] theorem isi_tup_int (l : List D) : gIsi [.tup l, .ty "int"] = some (.bl false) := by simp [gIsi, tyName, kB8]
@[simp] theorem isi_lst_int (l : List D) : gIsi [.lst l, .ty "int"] = some (.bl false) := by simp [gIsi, tyName, kB9]
@[simp] theorem isi_str_int (x : Str) : gIsi [.str x, .ty "int"] = some (.bl false) := by simp [gIsi, tyName, kB10]
@[simp] theorem isi_non_int : gIsi [.non, .ty "int"] = some (.bl false) := by simp [gIsi, tyName, kB11]

/-! ### lists of ints -/
def iT (l : List Int) : D := .tup (l.map .int)
def iL (l : List Int) : D := .lst (l.map .int)
@[simp] theorem doks_ints (n : Nat) (l : List Int) : doks n (l.map D.int) = true := by
  induction l with
  | nil => rfl
  | cons x r ih => simp [doks, dok, ih]
@[simp] theorem dok_iT (n : Nat) (l : List Int) : dok (n + 1) (iT l) = true := by simp [iT, dok]
@[simp] theorem dok_iL (n : Nat) (l : List Int) : dok (n + 1) (iL l) = true := by simp [iL, dok]
@[simp] theorem eqbs_ints : ∀ l m : List Int, eqbs (l.map D.int) (m.map D.int) = decide (l = m)
  | [], [] => rfl
  | [], _ :: _ => by simp [eqbs]
  | _ :: _, [] => by simp [eqbs]
  | x :: r, y :: t => by
    simp only [List.map_cons, eqbs, eqb, eqbs_ints r t, List.cons.injEq]
    by_cases h1 : x = y <;> by_cases h2 : r = t <;> simp [h1, h2]
@[simp] theorem eqb_iT (l m : List Int) : eqb (iT l) (iT m) = decide (l = m) := by simp [iT, eqb]
@[simp] theorem eqb_iL (l m : List Int) : eqb (iL l) (iL m) = decide (l = m) := by simp [iL, eqb]
@[simp] theorem flat_ints (l : List Int) : (l.map D.int).all gIn.flatD = true := by
  induction l with
  | nil => rfl
  | cons x r ih => simp [gIn.flatD]
@[simp] theorem mem_ints (x : Int) (l : List Int) : memD (.int x) (l.map D.int) = decide (x ∈ l) := by
  unfold memD
  induction l with
  | nil => simp
  | cons y r ih =>
    simp only [List.map_cons, List.any_cons, eqb, ih, List.mem_cons]
    by_cases h1 : x = y
    · subst h1; simp
    · have : ¬ y = x := fun z => h1 z.symm
      by_cases h2 : x ∈ r <;> simp [h1, h2, this]
@[simp] theorem gIn_iT (x : Int) (l : List Int) : gIn (.int x) (iT l) = some (.bl (decide (x ∈ l))) := by
  simp [iT, gIn, gIn.flatD, -List.all_map]
@[simp] theorem gIn_iL (x : Int) (l : List Int) : gIn (.int x) (iL l) = some (.bl (decide (x ∈ l))) := by
  simp [iL, gIn, dok]
@[simp] theorem items_iT (l : List Int) : itemsD (iT l) = .ok (l.map D.int) := rfl
@[simp] theorem items_iL (l : List Int) : itemsD (iL l) = .ok (l.map D.int) := rfl
@[simp] theorem gLen_iT (l : List Int) : gLen [iT l] = some (.int (l.length : Nat)) := by simp [iT]
@[simp] theorem gLen_iL (l : List Int) : gLen [iL l] = some (.int (l.length : Nat)) := by simp [iL]
@[simp] theorem gTuple_iL (l : List Int) : gTuple [iL l] = some (iT l) := rfl
@[simp] theorem gList_iT (l : List Int) : gList [iT l] = some (l.map D.int) := rfl
@[simp] theorem gList_iL (l : List Int) : gList [iL l] = some (l.map D.int) := rfl
@[simp] theorem isi_iT (l : List Int) : gIsi [iT l, .ty "tuple"] = some (.bl true) := isi_tup_tuple _
theorem atI_zero {α : Type} (a : α) (l : List α) : atI (a :: l) 0 = some a := by simp [atI, ixN]
theorem atI_one {α : Type} (a b : α) (l : List α) : atI (a :: b :: l) 1 = some b := by
  unfold atI ixN
  have h : (1 : Int) < ((a :: b :: l).length : Nat) := by simp; omega
  rw [if_pos (by omega), if_pos h]
  rfl
theorem atI_two {α : Type} (a b c : α) (l : List α) : atI (a :: b :: c :: l) 2 = some c := by
  unfold atI ixN
  have h : (2 : Int) < ((a :: b :: c :: l).length : Nat) := by simp; omega
  rw [if_pos (by omega), if_pos h]
  rfl
theorem atI_of {α : Type} {l : List α} {i : Int} {a : α} (h0 : 0 ≤ i) (h : l[i.toNat]? = some a) : atI l i = some a := by
  have hl : i.toNat < l.length := (List.getElem?_eq_some_iff.mp h).1
  unfold atI ixN
  rw [if_pos h0, if_pos (by omega)]
  exact h
theorem atI_nat' {α : Type} {l : List α} {i : Nat} {a : α} (h : l[i]? = some a) : atI l (i : Int) = some a := atI_of (by omega) (by simpa using h)
@[simp] theorem atI_0 {α : Type} (a : α) (l : List α) : atI (a :: l) 0 = some a := atI_zero a l
@[simp] theorem atI_1 {α : Type} (a b : α) (l : List α) : atI (a :: b :: l) 1 = some b := atI_one a b l
@[simp] theorem atI_2 {α : Type} (a b c : α) (l : List α) : atI (a :: b :: c :: l) 2 = some c := atI_two a b c l
/-! ### ranges -/
def rg (lo hi : Int) : List Int := (List.range (hi - lo).toNat).map fun i => lo + (i : Nat)
theorem rangeD_eq (lo hi : Int) : rangeD lo hi = (rg lo hi).map D.int := by simp [rangeD, rg]
theorem mem_rg {lo hi x : Int} : x ∈ rg lo hi ↔ lo ≤ x ∧ x < hi := by
  simp only [rg, List.mem_map, List.mem_range]
  constructor
  · rintro ⟨i, h, rfl⟩; omega
  · rintro ⟨h1, h2⟩; exact ⟨(x - lo).toNat, by omega, by omega⟩
theorem rg_len (lo hi : Int) : (rg lo hi).length = (hi - lo).toNat := by simp [rg]
theorem rg_rise (lo hi : Int) : (rg lo hi).Pairwise (· < ·) := by
  unfold rg
  rw [List.pairwise_map]
  exact List.pairwise_lt_range.imp fun h => by omega
/-! ### comprehensions, loops -/
theorem lc_eval {g : D → DL.Env → Option DL.Env} {t : DL.Env → R Bool} {e : DL.Env → R D} {ρ : DL.Env} {α : Type} (f : α → D) (F : α → Bool) (G : α → D) : ∀ (items : List α), (∀ a ∈ items, ∃ ρ1, g (f a) ρ = some ρ1 ∧ t ρ1 = .ok (F a) ∧ (F a = true → e ρ1 = .ok (G a))) →
    lcLoop g t e ρ (items.map f) = .ok ((items.filter F).map G)
  | [], _ => rfl
  | a :: r, h => by
    obtain ⟨ρ1, h1, h2, h3⟩ := h a (by simp)
    have ih := lc_eval f F G r fun b hb => h b (by simp [hb])
    rw [List.map_cons]
    unfold lcLoop
    simp only [h1, h2]
    cases hF : F a with
    | true => simp only [h3 hF, ih, R.bind_ok, List.filter_cons, hF, if_true, List.map_cons]
    | false => simp only [ih, List.filter_cons, hF]; rfl
theorem lc_map {g : D → DL.Env → Option DL.Env} {t : DL.Env → R Bool} {e : DL.Env → R D} {ρ : DL.Env} {α : Type} {f : α → D} (G : α → D) (items : List α) (h : ∀ a ∈ items, ∃ ρ1, g (f a) ρ = some ρ1 ∧ t ρ1 = .ok true ∧ e ρ1 = .ok (G a)) :
    lcLoop g t e ρ (items.map f) = .ok (items.map G) := by
  rw [lc_eval f (fun _ => true) G items fun a ha => let ⟨ρ1, h1, h2, h3⟩ := h a ha; ⟨ρ1, h1, h2, fun _ => h3⟩]
  rw [List.filter_eq_self.mpr fun _ _ => rfl]
theorem lc_mapD {g : D → DL.Env → Option DL.Env} {t : DL.Env → R Bool} {e : DL.Env → R D} {ρ : DL.Env} (G : D → D) (items : List D) (h : ∀ a ∈ items, ∃ ρ1, g a ρ = some ρ1 ∧ t ρ1 = .ok true ∧ e ρ1 = .ok (G a)) :
    lcLoop g t e ρ items = .ok (items.map G) := by
  have := lc_map (g := g) (t := t) (e := e) (ρ := ρ) (f := id) G items h
  rwa [List.map_id] at this
/-- [x for x in items if F x] -/
theorem lc_filt {g : D → DL.Env → Option DL.Env} {t : DL.Env → R Bool} {e : DL.Env → R D} {ρ : DL.Env} {α : Type} {f : α → D} (F : α → Bool) (items : List α) (h : ∀ a ∈ items, ∃ ρ1, g (f a) ρ = some ρ1 ∧ t ρ1 = .ok (F a) ∧ e ρ1 = .ok (f a)) :
    lcLoop g t e ρ (items.map f) = .ok ((items.filter F).map f) :=
  lc_eval f F f items fun a ha => let ⟨ρ1, h1, h2, h3⟩ := h a ha; ⟨ρ1, h1, h2, fun _ => h3⟩
@[simp] theorem asBls_f {α : Type} (f : α → Bool) (l : List α) : asBls (l.map fun a => D.bl (f a)) = some (l.map f) := by
  have := asBls_map (l.map f)
  rwa [List.map_map] at this
@[simp] theorem asInts_f {α : Type} (f : α → Int) (l : List α) : asInts (l.map fun a => D.int (f a)) = some (l.map f) := by
  have := asInts_map (l.map f)
  rwa [List.map_map] at this
/-- a loop's folded state: E the environment of a state and of what it leaves behind -/
theorem for_fold {g : D → DL.Env → Option DL.Env} {b : SD} {α σ τ : Type} (f : α → D) (E : σ → τ → DL.Env) (step : σ → α → σ) : ∀ (items : List α) (s : σ) (j : τ),
    (∀ s j a, a ∈ items → ∃ ρ1 j', g (f a) (E s j) = some ρ1 ∧ b ρ1 = some (.nx (E (step s a) j'))) → ∃ j', forLoop g b (items.map f) (E s j) = some (.nx (E (items.foldl step s) j'))
  | [], s, j, _ => ⟨j, rfl⟩
  | a :: r, s, j, h => by
    obtain ⟨ρ1, j1, h1, h2⟩ := h s j a (by simp)
    obtain ⟨j', ih⟩ := for_fold f E step r (step s a) j1 fun s j c hc => h s j c (by simp [hc])
    refine ⟨j', ?_⟩
    rw [List.map_cons]
    unfold forLoop
    simp only [h1, h2, ih, List.foldl_cons]
/-- .. with an invariant that the state keeps -/
theorem for_inv {g : D → DL.Env → Option DL.Env} {b : SD} {α σ τ : Type} (f : α → D) (E : σ → τ → DL.Env) (step : σ → α → σ) (I : σ → Prop) : ∀ (items : List α) (s : σ) (j : τ), I s →
    (∀ s j a, a ∈ items → I s → I (step s a) ∧ ∃ ρ1 j', g (f a) (E s j) = some ρ1 ∧ b ρ1 = some (.nx (E (step s a) j'))) → I (items.foldl step s) ∧ ∃ j', forLoop g b (items.map f) (E s j) = some (.nx (E (items.foldl step s) j'))
  | [], s, j, i, _ => ⟨i, j, rfl⟩
  | a :: r, s, j, i, h => by
    obtain ⟨i1, ρ1, j1, h1, h2⟩ := h s j a (by simp) i
    obtain ⟨i2, j', ih⟩ := for_inv f E step I r (step s a) j1 i1 fun s j c hc => h s j c (by simp [hc])
    refine ⟨i2, j', ?_⟩
    rw [List.map_cons]
    unfold forLoop
    simp only [h1, h2, ih, List.foldl_cons]
end DL

set_option Elab.async false
set_option linter.all false
set_option maxRecDepth 100000
set_option maxHeartbeats 1000000
/-! Evaluating denotations: what DL12 and later bring. -/
namespace DL
variable [Tabs]
open PySem L2
section
variable {ρ : DL.Env}
@[simp] theorem gSortedA_dI (ks : List Int) (vs : List D) : gSortedA [.dI ks vs] = if ks.length < 64 then some ((srtI ks).map D.int) else none := rfl
@[simp] theorem gSortedA_dT (ks : List (List Int)) (vs : List D) : gSortedA [.dT ks vs] = some ((ks.mergeSort leK).map tupI) := rfl
@[simp] theorem gSortedA_lst (l : List D) : gSortedA [.lst l] = gSorted [.lst l] := rfl
@[simp] theorem ev_dic (f : DL.Env → R Ow) : eDic f ρ = (f ρ).bind fun o => match o with
  | .lst ds => .bad
  | o => .ok (owD o) := rfl
@[simp] theorem ev_thaw (i : Nat) (f : DL.Env → R D) : eThaw i f ρ = (match ρ[i]? with
  | some (.own (.lst ds)) => (match f (ρ.set i (.val (.lst ds))) with
    | .ok d => if noL d then .ok d else .bad
    | .exc c => .exc c
    | .bad => .bad)
  | _ => .bad) := rfl
@[simp] theorem ev_iSeqA (f : DL.Env → R D) : iSeqA f ρ = (f ρ).bind itemsA := rfl
@[simp] theorem ev_oAdd (fa fb : DL.Env → R D) : oAdd fa fb ρ = (fa ρ).bind fun a => (fb ρ).bind fun b => match a, b with
  | .lst l, .lst m => if l.length + m.length ≤ 100000 then .ok (.lst (l ++ m)) else .bad
  | _, _ => .bad := rfl
@[simp] theorem ev_count (fo : DL.Env → R D) (fa : DL.Env → R (List D)) : eCount fo fa ρ = (fo ρ).bind fun o => match o with
  | .lst l => (fa ρ).bind fun as => match as with
    | [.int k] => (match asInts l with
      | some ns => .ok (.int (ns.count k : Nat))
      | none => .bad)
    | _ => .bad
  | _ => .bad := rfl
@[simp] theorem ev_tupRg (f : DL.Env → R D) : eTupRg f ρ = (f ρ).bind fun d => match d with
  | .int j => if decide (0 ≤ j) && decide (j ≤ 100000) then .ok (.tup (rangeD 0 j)) else .bad
  | _ => .bad := rfl
@[simp] theorem ev_iEnumA (f : DL.Env → R (List D)) : iEnumA f ρ = (f ρ).bind fun as => match as with
  | [.tup l] => .ok (enumD l)
  | [.lst l] => .ok (enumD l)
  | _ => .bad := rfl
@[simp] theorem ev_ext (i : Nat) (f : DL.Env → R D) : sExt i f ρ = (match ρ[i]? with
  | some (.own (.lst ds)) => (match f ρ with
    | .ok d => (match d with
      | .lst es => if ds.length + es.length ≤ 100000 then some (.nx (ρ.set i (.own (.lst (ds ++ es))))) else none
      | _ => none)
    | .exc c => some (.xc c ρ)
    | .bad => none)
  | _ => none) := rfl
end
end DL

set_option Elab.async false
set_option linter.all false
set_option maxRecDepth 100000
set_option maxHeartbeats 4000000
namespace LW
open PySem L2 DL
abbrev topS (i : Nat) : Stmt := PySem.Challenge.pw_bloomback_k68_formats.main.body.getD i (.Pass ⟨0, 0, 0, 0⟩)
/-- what the top has left -/
structure Tb (mg : Str → Option Value) (K : PySem.W.Frag) : Prop where
  n_ValueError : mg "ValueError" = none
  n_all : mg "all" = none
  n_bool : mg "bool" = none
  n_int : mg "int" = none
  n_isinstance : mg "isinstance" = none
  n_len : mg "len" = none
  n_list : mg "list" = none
  n_max : mg "max" = none
  n_min : mg "min" = none
  n_range : mg "range" = none
  n_str : mg "str" = none
  n_tuple : mg "tuple" = none
  n_zip : mg "zip" = none
  i_MAX_BITS : ∃ t, mg "MAX_BITS" = some (.int 4 t)
  i_MAX_DIGITS : ∃ t, mg "MAX_DIGITS" = some (.int 2 t)
  i_MAX_KEYS : ∃ t, mg "MAX_KEYS" = some (.int 10 t)
  i_MAX_SIZE : ∃ t, mg "MAX_SIZE" = some (.int 16 t)
  s_CLEAR : ∃ t, mg "CLEAR" = some (.str "." t)
  s_DIGITS : ∃ t, mg "DIGITS" = some (.str "0123456789" t)
  s_SET : ∃ t, mg "SET" = some (.str "#" t)
  r_AlreadyThere : mg "AlreadyThere" = some (.ref (He.ga K "AlreadyThere"))
  r_BloomError : mg "BloomError" = some (.ref (He.ga K "BloomError"))
  r_InvalidCounters : mg "InvalidCounters" = some (.ref (He.ga K "InvalidCounters"))
  r_InvalidFilter : mg "InvalidFilter" = some (.ref (He.ga K "InvalidFilter"))
  r_InvalidHistory : mg "InvalidHistory" = some (.ref (He.ga K "InvalidHistory"))
  r_InvalidKey : mg "InvalidKey" = some (.ref (He.ga K "InvalidKey"))
  r_InvalidKeys : mg "InvalidKeys" = some (.ref (He.ga K "InvalidKeys"))
  r_InvalidNumber : mg "InvalidNumber" = some (.ref (He.ga K "InvalidNumber"))
  r_InvalidScheme : mg "InvalidScheme" = some (.ref (He.ga K "InvalidScheme"))
  r_NotThere : mg "NotThere" = some (.ref (He.ga K "NotThere"))
  r_NothingToUndo : mg "NothingToUndo" = some (.ref (He.ga K "NothingToUndo"))
  r_OddSize : mg "OddSize" = some (.ref (He.ga K "OddSize"))
  r_ParseError : mg "ParseError" = some (.ref (He.ga K "ParseError"))
  r_TooLarge : mg "TooLarge" = some (.ref (He.ga K "TooLarge"))
  r__law_all : mg "_law_all" = some (.ref (He.ga K "_law_all"))
  r__law_class : mg "_law_class" = some (.ref (He.ga K "_law_class"))
  r__law_pick : mg "_law_pick" = some (.ref (He.ga K "_law_pick"))
  r__law_result : mg "_law_result" = some (.ref (He.ga K "_law_result"))
  r__law_scheme : mg "_law_scheme" = some (.ref (He.ga K "_law_scheme"))
  r__law_some : mg "_law_some" = some (.ref (He.ga K "_law_some"))
  r_check_filter : mg "check_filter" = some (.ref (He.ga K "check_filter"))
  r_check_scheme : mg "check_scheme" = some (.ref (He.ga K "check_scheme"))
  r_format_filter : mg "format_filter" = some (.ref (He.ga K "format_filter"))
  r_format_scheme : mg "format_scheme" = some (.ref (He.ga K "format_scheme"))
  r_is_int : mg "is_int" = some (.ref (He.ga K "is_int"))
  r_is_rising : mg "is_rising" = some (.ref (He.ga K "is_rising"))
  r_is_scheme : mg "is_scheme" = some (.ref (He.ga K "is_scheme"))
  r_law : mg "law" = some (.ref (He.ga K "law"))
  r_parse_filter : mg "parse_filter" = some (.ref (He.ga K "parse_filter"))
  r_parse_scheme : mg "parse_scheme" = some (.ref (He.ga K "parse_scheme"))
  r_read_number : mg "read_number" = some (.ref (He.ga K "read_number"))
  r_scheme_text : mg "scheme_text" = some (.ref (He.ga K "scheme_text"))
  x_InvalidFilter : (He.Fa.exc "InvalidFilter").ok K = true
  x_InvalidScheme : (He.Fa.exc "InvalidScheme").ok K = true
  x_ParseError : (He.Fa.exc "ParseError").ok K = true
  e_ParseError_BloomError : PySem.W.exmOne K (.ref (He.ga K "ParseError")) (.ref (He.ga K "BloomError")) = some true
  e_ParseError_InvalidScheme : PySem.W.exmOne K (.ref (He.ga K "ParseError")) (.ref (He.ga K "InvalidScheme")) = some false
  e_ParseError_InvalidKeys : PySem.W.exmOne K (.ref (He.ga K "ParseError")) (.ref (He.ga K "InvalidKeys")) = some false
  e_ParseError_InvalidFilter : PySem.W.exmOne K (.ref (He.ga K "ParseError")) (.ref (He.ga K "InvalidFilter")) = some false
  e_ParseError_InvalidNumber : PySem.W.exmOne K (.ref (He.ga K "ParseError")) (.ref (He.ga K "InvalidNumber")) = some false
  e_ParseError_InvalidKey : PySem.W.exmOne K (.ref (He.ga K "ParseError")) (.ref (He.ga K "InvalidKey")) = some false
  e_ParseError_TooLarge : PySem.W.exmOne K (.ref (He.ga K "ParseError")) (.ref (He.ga K "TooLarge")) = some false
  e_ParseError_OddSize : PySem.W.exmOne K (.ref (He.ga K "ParseError")) (.ref (He.ga K "OddSize")) = some false
  e_ParseError_InvalidCounters : PySem.W.exmOne K (.ref (He.ga K "ParseError")) (.ref (He.ga K "InvalidCounters")) = some false
  e_ParseError_InvalidHistory : PySem.W.exmOne K (.ref (He.ga K "ParseError")) (.ref (He.ga K "InvalidHistory")) = some false
  e_ParseError_AlreadyThere : PySem.W.exmOne K (.ref (He.ga K "ParseError")) (.ref (He.ga K "AlreadyThere")) = some false
  e_ParseError_NotThere : PySem.W.exmOne K (.ref (He.ga K "ParseError")) (.ref (He.ga K "NotThere")) = some false
  e_ParseError_NothingToUndo : PySem.W.exmOne K (.ref (He.ga K "ParseError")) (.ref (He.ga K "NothingToUndo")) = some false
  e_ParseError_ParseError : PySem.W.exmOne K (.ref (He.ga K "ParseError")) (.ref (He.ga K "ParseError")) = some true
  e_InvalidScheme_InvalidScheme : PySem.W.exmOne K (.ref (He.ga K "InvalidScheme")) (.ref (He.ga K "InvalidScheme")) = some true
  e_InvalidKeys_InvalidKeys : PySem.W.exmOne K (.ref (He.ga K "InvalidKeys")) (.ref (He.ga K "InvalidKeys")) = some true
  e_InvalidFilter_InvalidFilter : PySem.W.exmOne K (.ref (He.ga K "InvalidFilter")) (.ref (He.ga K "InvalidFilter")) = some true
  e_InvalidNumber_InvalidNumber : PySem.W.exmOne K (.ref (He.ga K "InvalidNumber")) (.ref (He.ga K "InvalidNumber")) = some true
  e_InvalidKey_InvalidKey : PySem.W.exmOne K (.ref (He.ga K "InvalidKey")) (.ref (He.ga K "InvalidKey")) = some true
  e_TooLarge_TooLarge : PySem.W.exmOne K (.ref (He.ga K "TooLarge")) (.ref (He.ga K "TooLarge")) = some true
  e_OddSize_OddSize : PySem.W.exmOne K (.ref (He.ga K "OddSize")) (.ref (He.ga K "OddSize")) = some true
  e_InvalidCounters_InvalidCounters : PySem.W.exmOne K (.ref (He.ga K "InvalidCounters")) (.ref (He.ga K "InvalidCounters")) = some true
  e_InvalidHistory_InvalidHistory : PySem.W.exmOne K (.ref (He.ga K "InvalidHistory")) (.ref (He.ga K "InvalidHistory")) = some true
  e_AlreadyThere_AlreadyThere : PySem.W.exmOne K (.ref (He.ga K "AlreadyThere")) (.ref (He.ga K "AlreadyThere")) = some true
  e_NotThere_NotThere : PySem.W.exmOne K (.ref (He.ga K "NotThere")) (.ref (He.ga K "NotThere")) = some true
  e_NothingToUndo_NothingToUndo : PySem.W.exmOne K (.ref (He.ga K "NothingToUndo")) (.ref (He.ga K "NothingToUndo")) = some true
  c_ParseError : ExcC K (He.ga K "ParseError")
  v_ParseError : PySem.W.kitOne K (.ref (He.ga K "ParseError")) (.type "ValueError") = some true
  f_is_int : ∃ fd, FunD K "is_int" "is_int" (defArgs (topS 19)) (defBody (topS 19)) (defScope (topS 19)) [] [] (He.ga K "is_int") fd
  f_is_rising : ∃ fd, FunD K "is_rising" "is_rising" (defArgs (topS 20)) (defBody (topS 20)) (defScope (topS 20)) [] [] (He.ga K "is_rising") fd
  f_is_scheme : ∃ fd, FunD K "is_scheme" "is_scheme" (defArgs (topS 21)) (defBody (topS 21)) (defScope (topS 21)) [] [] (He.ga K "is_scheme") fd
  f_check_scheme : ∃ fd, FunD K "check_scheme" "check_scheme" (defArgs (topS 22)) (defBody (topS 22)) (defScope (topS 22)) [] [] (He.ga K "check_scheme") fd
  f_scheme_text : ∃ fd, FunD K "scheme_text" "scheme_text" (defArgs (topS 29)) (defBody (topS 29)) (defScope (topS 29)) [] [] (He.ga K "scheme_text") fd
  f_format_scheme : ∃ fd, FunD K "format_scheme" "format_scheme" (defArgs (topS 30)) (defBody (topS 30)) (defScope (topS 30)) [] [] (He.ga K "format_scheme") fd
  f_read_number : ∃ fd, FunD K "read_number" "read_number" (defArgs (topS 31)) (defBody (topS 31)) (defScope (topS 31)) [] [] (He.ga K "read_number") fd
  f_parse_scheme : ∃ fd, FunD K "parse_scheme" "parse_scheme" (defArgs (topS 32)) (defBody (topS 32)) (defScope (topS 32)) [] [] (He.ga K "parse_scheme") fd
  f_check_filter : ∃ fd, FunD K "check_filter" "check_filter" (defArgs (topS 23)) (defBody (topS 23)) (defScope (topS 23)) [] [] (He.ga K "check_filter") fd
  f_format_filter : ∃ fd, FunD K "format_filter" "format_filter" (defArgs (topS 33)) (defBody (topS 33)) (defScope (topS 33)) [] [] (He.ga K "format_filter") fd
  f_parse_filter : ∃ fd, FunD K "parse_filter" "parse_filter" (defArgs (topS 34)) (defBody (topS 34)) (defScope (topS 34)) [] [] (He.ga K "parse_filter") fd
  f__law_pick : ∃ fd, FunD K "_law_pick" "_law_pick" (defArgs (topS 36)) (defBody (topS 36)) (defScope (topS 36)) [] [] (He.ga K "_law_pick") fd
  f__law_some : ∃ fd, FunD K "_law_some" "_law_some" (defArgs (topS 37)) (defBody (topS 37)) (defScope (topS 37)) [] [] (He.ga K "_law_some") fd
  f__law_scheme : ∃ fd, FunD K "_law_scheme" "_law_scheme" (defArgs (topS 38)) (defBody (topS 38)) (defScope (topS 38)) [] [] (He.ga K "_law_scheme") fd
  f__law_class : ∃ fd, FunD K "_law_class" "_law_class" (defArgs (topS 39)) (defBody (topS 39)) (defScope (topS 39)) [] [] (He.ga K "_law_class") fd
  f__law_result : ∃ fd, FunD K "_law_result" "_law_result" (defArgs (topS 40)) (defBody (topS 40)) (defScope (topS 40)) [] [] (He.ga K "_law_result") fd
  f__law_all : ∃ fd, FunD K "_law_all" "_law_all" (defArgs (topS 41)) (defBody (topS 41)) (defScope (topS 41)) [] [] (He.ga K "_law_all") fd
  f_law : ∃ fd, FunD K "law" "law" (defArgs (topS 42)) (defBody (topS 42)) (defScope (topS 42)) [] [] (He.ga K "law") fd
/-- .. with the tables of the makers of lambdas -/
structure Tc [Tabs] (mg : Str → Option Value) (K : PySem.W.Frag) (base : Heap) : Prop extends Tb mg K where
  t_law : LamX.TabB base mg (He.cT K ("law", none)).1 (He.cT K ("law", none)).2
  q_law : Tabs.nm (He.cT K ("law", none)).2 = lamQual "law"
  a_law : (He.cT K ("law", none)).2 ∈ Tabs.all
section
variable [Tabs]
variable {P : Program} {w : World} {K : PySem.W.Frag} {mg : Str → Option Value} {base : Heap}
/-! ### is_int -/

def g_is_int (K : PySem.W.Frag) : SD :=
    (sRet (vAnd (eArgs gIsi (aCons (eVar 0) (aCons (eC (.ty "int")) aNil))) (vAnd (vNot (eArgs gIsi (aCons (eVar 0) (aCons (eC (.ty "bool")) aNil)))) (ch2 gLe0 gLe0 (eVar 1) (eVar 0) (eVar 2)))))
def m_is_int (K : PySem.W.Frag) : List D → R D := fnD 3 (g_is_int K)
theorem sc_is_int : FnScope ["value", "least", "most"] ["value", "least", "most"] (defScope (topS 19)) := ⟨rfl, rfl, rfl, by decide +kernel, rfl, by decide +kernel, by decide +kernel⟩
theorem fk_is_int (T : Tc mg K base) {fd : FuncData} (F : FunD K "is_int" "is_int" (defArgs (topS 19)) (defBody (topS 19)) (defScope (topS 19)) [] [] (He.ga K "is_int") fd) : FnOk P w K mg base (L2.CX P w) 1 (He.ga K "is_int") fd ["value", "least", "most"] (spD K 3 (m_is_int K)) := by
  exact fn_okD (k := 0) F sc_is_int fun X W h1 h2 h3 h4 h5 O => by
    have C := O.ctx h1 h2 h3 h4 h5 sc_is_int.nd
    exact (dss_one (ds_ret (de_and (xisi C T.n_isinstance rfl (da_cons (xv C 0 rfl rfl) (da_cons (xty C (T := "int") T.n_int (by decide +kernel) rfl) da_nil))) (de_and (de_not (xisi C T.n_isinstance rfl (da_cons (xv C 0 rfl rfl) (da_cons (xty C (T := "bool") T.n_bool (by decide +kernel) rfl) da_nil)))) (de_one (de_chain op_le op_le ops_le ops_le (xv C 1 rfl rfl) (xv C 0 rfl rfl) (xv C 2 rfl rfl)))))))
theorem ok_is_int (T : Tc mg K base) : Fd P w K mg base 1 "is_int" 3 (m_is_int K) := by
  obtain ⟨fd, F⟩ := T.f_is_int
  exact fd_of F T.r_is_int (F.bindsN fun _ _ _ _ _ _ us hl => match us, hl with | [_, _, _], _ => rfl) (fk_is_int T F)

/-! ### is_rising -/

def g_is_rising (K : PySem.W.Frag) : SD :=
    (sSeq (sIf (bOr (bNot (asB (eArgs gIsi (aCons (eVar 0) (aCons (eC (.ty "tuple")) aNil))))) (bNot (asB (eArgs gAll (aCons (eLst (oLc (iSeqD (eVar 0)) (gSet 4) bYes (eCall (m_is_int K) (aCons (eVar 4) (aCons (eC (.int 0)) (aCons (eVar 1) aNil)))) [4])) aNil))))) (sRet (eC (.bl false))) sNil)
    (sRet (eArgs gAll (aCons (eLst (oLc (iZipD (aCons (eVar 0) (aCons (eSl (eVar 0) (oPart (some (eC (.int 1)))) (oPart none)) aNil))) (gTupT 2 (gsCons (gSet 2) (gsCons (gSet 3) gsNil))) bYes (op2 gLt (eVar 2) (eVar 3)) [2, 3])) aNil))))
def m_is_rising (K : PySem.W.Frag) : List D → R D := fnD 5 (g_is_rising K)
theorem sc_is_rising : FnScope ["value", "most", "one", "other", "part"] ["value", "most"] (defScope (topS 20)) := ⟨rfl, rfl, rfl, by decide +kernel, rfl, by decide +kernel, by decide +kernel⟩
theorem fk_is_rising (T : Tc mg K base) {fd : FuncData} (F : FunD K "is_rising" "is_rising" (defArgs (topS 20)) (defBody (topS 20)) (defScope (topS 20)) [] [] (He.ga K "is_rising") fd) : FnOk P w K mg base (L2.CX P w) 2 (He.ga K "is_rising") fd ["value", "most"] (spD K 2 (m_is_rising K)) := by
  exact fn_okD (k := 1) F sc_is_rising fun X W h1 h2 h3 h4 h5 O => by
    have C := O.ctx h1 h2 h3 h4 h5 sc_is_rising.nd
    exact (dss_cons (ds_if (PW.pt (dw_or (dt_not (dt_val (xisi C T.n_isinstance rfl (da_cons (xv C 0 rfl rfl) (da_cons (xty C (T := "tuple") T.n_tuple (by decide +kernel) rfl) da_nil))))) (dw_or1 (dt_not (dt_val (xall C T.n_all rfl (da_cons (de_lstO (xlc C [("part", 4)] [4] (dig_of (di_seq (xv C 0 rfl rfl))) rfl (fun Y C' fnY => ⟨(gname C' 4 rfl rfl (.inr rfl)), dts_nil, (xcall C' (ok_is_int T) (by decide) rfl (da_cons (xv C' 4 rfl rfl) (da_cons de_int (da_cons (xv C' 1 rfl rfl) da_nil))) (aCons_len (aCons_len (aCons_len (aNil_len rfl)))))⟩))) da_nil))))))) (dss_one (ds_ret de_bl)) dss_nil)
    (dss_one (ds_ret (xall C T.n_all rfl (da_cons (de_lstO (xlc C [("one", 2), ("other", 3)] [2, 3] (dig_of (izip C T.n_zip rfl (da_cons (xv C 0 rfl rfl) (da_cons (de_slice (xv C 0 rfl rfl) (dpo_some de_int) dpo_none) da_nil)) (aCons_len (aCons_len (aNil_len rfl))))) rfl (fun Y C' fnY => ⟨(dg_tup C'.calm (dgs_cons (gname C' 2 rfl rfl (.inr rfl)) (dgs_cons (gname C' 3 rfl rfl (.inr rfl)) dgs_nil))), dts_nil, (de_lt C'.hu (xv C' 2 rfl rfl) (xv C' 3 rfl rfl))⟩))) da_nil)))))
theorem ok_is_rising (T : Tc mg K base) : Fd P w K mg base 2 "is_rising" 2 (m_is_rising K) := by
  obtain ⟨fd, F⟩ := T.f_is_rising
  exact fd_of F T.r_is_rising (F.bindsN fun _ _ _ _ _ _ us hl => match us, hl with | [_, _], _ => rfl) (fk_is_rising T F)

/-! ### is_scheme -/

def g_is_scheme (K : PySem.W.Frag) : SD :=
    (sSeq (sIf (bOr (bNot (asB (eArgs gIsi (aCons (eVar 0) (aCons (eC (.ty "tuple")) aNil))))) (bOr (asB (op2 gNe (eArgs gLen (aCons (eVar 0) aNil)) (eC (.int 2)))) (bNot (asB (eCall (m_is_int K) (aCons (op2 gIx (eVar 0) (eC (.int 0))) (aCons (eC (.int 1)) (aCons (eC (.int 16)) aNil)))))))) (sRet (eC (.bl false))) sNil)
    (sSeq (sAsg (eVar 0) (gTupT 2 (gsCons (gSet 1) (gsCons (gSet 2) gsNil))))
    (sSeq (sIf (bOr (bNot (asB (eArgs gIsi (aCons (eVar 2) (aCons (eC (.ty "tuple")) aNil))))) (bNot (asB (ch2 gLe0 gLe0 (eC (.int 1)) (eArgs gLen (aCons (eVar 2) aNil)) (eC (.int 10)))))) (sRet (eC (.bl false))) sNil)
    (sRet (eArgs gAll (aCons (eLst (oLc (iSeqD (eVar 2)) (gSet 3) bYes (vAnd (eCall (m_is_rising K) (aCons (eVar 3) (aCons (op2 gSub (eVar 1) (eC (.int 1))) aNil))) (ch2 gLe0 gLe0 (eC (.int 1)) (eArgs gLen (aCons (eVar 3) aNil)) (eC (.int 4)))) [3])) aNil))))))
def m_is_scheme (K : PySem.W.Frag) : List D → R D := fnD 4 (g_is_scheme K)
theorem sc_is_scheme : FnScope ["candidate", "size", "rows", "row"] ["candidate"] (defScope (topS 21)) := ⟨rfl, rfl, rfl, by decide +kernel, rfl, by decide +kernel, by decide +kernel⟩
theorem fk_is_scheme (T : Tc mg K base) {fd : FuncData} (F : FunD K "is_scheme" "is_scheme" (defArgs (topS 21)) (defBody (topS 21)) (defScope (topS 21)) [] [] (He.ga K "is_scheme") fd) : FnOk P w K mg base (L2.CX P w) 3 (He.ga K "is_scheme") fd ["candidate"] (spD K 1 (m_is_scheme K)) := by
  exact fn_okD (k := 2) F sc_is_scheme fun X W h1 h2 h3 h4 h5 O => by
    have C := O.ctx h1 h2 h3 h4 h5 sc_is_scheme.nd
    exact (dss_cons (ds_if (PW.pt (dw_or (dt_not (dt_val (xisi C T.n_isinstance rfl (da_cons (xv C 0 rfl rfl) (da_cons (xty C (T := "tuple") T.n_tuple (by decide +kernel) rfl) da_nil))))) (dw_or (dt_ne C.hu (xlen C T.n_len rfl (da_cons (xv C 0 rfl rfl) da_nil)) de_int) (dw_or1 (dt_not (dt_val (xcall C (ok_is_int T) (by decide) rfl (da_cons (de_ix (xv C 0 rfl rfl) de_int) (da_cons de_int (da_cons (xint C T.i_MAX_SIZE rfl) da_nil))) (aCons_len (aCons_len (aCons_len (aNil_len rfl))))))))))) (dss_one (ds_ret de_bl)) dss_nil)
    (dss_cons (ds_asg (xv C 0 rfl rfl) (dg_tup C.calm (dgs_cons (gname C 1 rfl rfl (.inl (O.fn _))) (dgs_cons (gname C 2 rfl rfl (.inl (O.fn _))) dgs_nil))))
    (dss_cons (ds_if (PW.pt (dw_or (dt_not (dt_val (xisi C T.n_isinstance rfl (da_cons (xv C 2 rfl rfl) (da_cons (xty C (T := "tuple") T.n_tuple (by decide +kernel) rfl) da_nil))))) (dw_or1 (dt_not (dt_chain op_le op_le ops_le ops_le de_int (xlen C T.n_len rfl (da_cons (xv C 2 rfl rfl) da_nil)) (xint C T.i_MAX_KEYS rfl)))))) (dss_one (ds_ret de_bl)) dss_nil)
    (dss_one (ds_ret (xall C T.n_all rfl (da_cons (de_lstO (xlc C [("row", 3)] [3] (dig_of (di_seq (xv C 2 rfl rfl))) rfl (fun Y C' fnY => ⟨(gname C' 3 rfl rfl (.inr rfl)), dts_nil, (de_and (xcall C' (ok_is_rising T) (by decide) rfl (da_cons (xv C' 3 rfl rfl) (da_cons (de_sub (xv C' 1 rfl rfl) de_int) da_nil)) (aCons_len (aCons_len (aNil_len rfl)))) (de_one (de_chain op_le op_le ops_le ops_le de_int (xlen C' T.n_len rfl (da_cons (xv C' 3 rfl rfl) da_nil)) (xint C' T.i_MAX_BITS rfl))))⟩))) da_nil)))))))
theorem ok_is_scheme (T : Tc mg K base) : Fd P w K mg base 3 "is_scheme" 1 (m_is_scheme K) := by
  obtain ⟨fd, F⟩ := T.f_is_scheme
  exact fd_of F T.r_is_scheme (F.bindsN fun _ _ _ _ _ _ us hl => match us, hl with | [_], _ => rfl) (fk_is_scheme T F)

/-! ### check_scheme -/

def g_check_scheme (K : PySem.W.Frag) : SD :=
    (sIf (bNot (asB (eCall (m_is_scheme K) (aCons (eVar 0) aNil)))) (sRaise (He.ga K "InvalidScheme")) sNil)
def m_check_scheme (K : PySem.W.Frag) : List D → R D := fnD 1 (g_check_scheme K)
theorem sc_check_scheme : FnScope ["value"] ["value"] (defScope (topS 22)) := ⟨rfl, rfl, rfl, by decide +kernel, rfl, by decide +kernel, by decide +kernel⟩
theorem fk_check_scheme (T : Tc mg K base) {fd : FuncData} (F : FunD K "check_scheme" "check_scheme" (defArgs (topS 22)) (defBody (topS 22)) (defScope (topS 22)) [] [] (He.ga K "check_scheme") fd) : FnOk P w K mg base (L2.CX P w) 4 (He.ga K "check_scheme") fd ["value"] (spD K 1 (m_check_scheme K)) := by
  exact fn_okD (k := 3) F sc_check_scheme fun X W h1 h2 h3 h4 h5 O => by
    have C := O.ctx h1 h2 h3 h4 h5 sc_check_scheme.nd
    exact (dss_one (ds_if (dt_not (dt_val (xcall C (ok_is_scheme T) (by decide) rfl (da_cons (xv C 0 rfl rfl) da_nil) (aCons_len (aNil_len rfl))))) (dss_one (yraise C T.r_InvalidScheme T.x_InvalidScheme rfl)) dss_nil))
theorem ok_check_scheme (T : Tc mg K base) : Fd P w K mg base 4 "check_scheme" 1 (m_check_scheme K) := by
  obtain ⟨fd, F⟩ := T.f_check_scheme
  exact fd_of F T.r_check_scheme (F.bindsN fun _ _ _ _ _ _ us hl => match us, hl with | [_], _ => rfl) (fk_check_scheme T F)

/-! ### scheme_text -/

def g_scheme_text (K : PySem.W.Frag) : SD :=
    (sSeq (sOwn 1 (oLc (iSeqD (op2 gIx (eVar 0) (eC (.int 1)))) (gSet 2) bYes (eM1 gJoin (eC (.str " ")) (eLst (oLc (iSeqD (eVar 2)) (gSet 3) bYes (eArgs gStr (aCons (eVar 3) aNil)) [3]))) [2]))
    (sFrz 1 (sRet (op2 gAdd (op2 gAdd (eArgs gStr (aCons (op2 gIx (eVar 0) (eC (.int 0))) aNil)) (eC (.str ": "))) (eM1 gJoin (eC (.str ", ")) (eVar 1))))))
def m_scheme_text (K : PySem.W.Frag) : List D → R D := fnD 4 (g_scheme_text K)
theorem sc_scheme_text : FnScope ["scheme", "rows", "row", "bit"] ["scheme"] (defScope (topS 29)) := ⟨rfl, rfl, rfl, by decide +kernel, rfl, by decide +kernel, by decide +kernel⟩
theorem fk_scheme_text (T : Tc mg K base) {fd : FuncData} (F : FunD K "scheme_text" "scheme_text" (defArgs (topS 29)) (defBody (topS 29)) (defScope (topS 29)) [] [] (He.ga K "scheme_text") fd) : FnOk P w K mg base (L2.CX P w) 1 (He.ga K "scheme_text") fd ["scheme"] (spD K 1 (m_scheme_text K)) := by
  exact fn_okD (k := 0) F sc_scheme_text fun X W h1 h2 h3 h4 h5 O => by
    have C := O.ctx h1 h2 h3 h4 h5 sc_scheme_text.nd
    exact (dss_cons (ylc C 1 [("row", 2)] [2] rfl rfl (sw_lc rfl rfl rfl rfl) (dig_of (di_seq (de_ix (xv C 0 rfl rfl) de_int))) rfl (fun Y C' fnY => ⟨(gname C' 2 rfl rfl (.inr rfl)), dts_nil, (de_join de_str (de_lstO (xlc C' [("bit", 3)] [3] (dig_of (di_seq (xv C' 2 rfl rfl))) rfl (fun Y C'' fnY => ⟨(gname C'' 3 rfl rfl (.inr rfl)), dts_nil, (xstrI C'' T.n_str rfl (da_cons (xv C'' 3 rfl rfl) da_nil))⟩))))⟩))
    (dss_frz 1 (dss_one (ds_ret (de_add (de_add (xstrI C T.n_str rfl (da_cons (de_ix (xv C 0 rfl rfl) de_int) da_nil)) de_str) (de_join de_str (xv C 1 rfl rfl)))))))
theorem ok_scheme_text (T : Tc mg K base) : Fd P w K mg base 1 "scheme_text" 1 (m_scheme_text K) := by
  obtain ⟨fd, F⟩ := T.f_scheme_text
  exact fd_of F T.r_scheme_text (F.bindsN fun _ _ _ _ _ _ us hl => match us, hl with | [_], _ => rfl) (fk_scheme_text T F)

/-! ### format_scheme -/

def g_format_scheme (K : PySem.W.Frag) : SD :=
    (sSeq (sDrop (eCall (m_check_scheme K) (aCons (eVar 0) aNil)))
    (sRet (eCall (m_scheme_text K) (aCons (eVar 0) aNil))))
def m_format_scheme (K : PySem.W.Frag) : List D → R D := fnD 1 (g_format_scheme K)
theorem sc_format_scheme : FnScope ["scheme"] ["scheme"] (defScope (topS 30)) := ⟨rfl, rfl, rfl, by decide +kernel, rfl, by decide +kernel, by decide +kernel⟩
theorem fk_format_scheme (T : Tc mg K base) {fd : FuncData} (F : FunD K "format_scheme" "format_scheme" (defArgs (topS 30)) (defBody (topS 30)) (defScope (topS 30)) [] [] (He.ga K "format_scheme") fd) : FnOk P w K mg base (L2.CX P w) 5 (He.ga K "format_scheme") fd ["scheme"] (spD K 1 (m_format_scheme K)) := by
  exact fn_okD (k := 4) F sc_format_scheme fun X W h1 h2 h3 h4 h5 O => by
    have C := O.ctx h1 h2 h3 h4 h5 sc_format_scheme.nd
    exact (dss_cons (ds_expr (xcall C (ok_check_scheme T) (by decide) rfl (da_cons (xv C 0 rfl rfl) da_nil) (aCons_len (aNil_len rfl))))
    (dss_one (ds_ret (xcall C (ok_scheme_text T) (by decide) rfl (da_cons (xv C 0 rfl rfl) da_nil) (aCons_len (aNil_len rfl))))))
theorem ok_format_scheme (T : Tc mg K base) : Fd P w K mg base 5 "format_scheme" 1 (m_format_scheme K) := by
  obtain ⟨fd, F⟩ := T.f_format_scheme
  exact fd_of F T.r_format_scheme (F.bindsN fun _ _ _ _ _ _ us hl => match us, hl with | [_], _ => rfl) (fk_format_scheme T F)

/-! ### read_number -/

def g_read_number (K : PySem.W.Frag) : SD :=
    (sSeq (sIf (bOr (bNot (asB (ch2 gLe0 gLe0 (eC (.int 1)) (eArgs gLen (aCons (eVar 0) aNil)) (eC (.int 2))))) (bNot (asB (eArgs gAll (aCons (eLst (oLc (iStrD (eVar 0)) (gSet 1) bYes (op2 gInS (eVar 1) (eC (.str "0123456789"))) [1])) aNil))))) (sRet (eC .non)) sNil)
    (sRet (eArgs gIntS (aCons (eVar 0) aNil))))
def m_read_number (K : PySem.W.Frag) : List D → R D := fnD 2 (g_read_number K)
theorem sc_read_number : FnScope ["word", "sign"] ["word"] (defScope (topS 31)) := ⟨rfl, rfl, rfl, by decide +kernel, rfl, by decide +kernel, by decide +kernel⟩
theorem fk_read_number (T : Tc mg K base) {fd : FuncData} (F : FunD K "read_number" "read_number" (defArgs (topS 31)) (defBody (topS 31)) (defScope (topS 31)) [] [] (He.ga K "read_number") fd) : FnOk P w K mg base (L2.CX P w) 1 (He.ga K "read_number") fd ["word"] (spD K 1 (m_read_number K)) := by
  exact fn_okD (k := 0) F sc_read_number fun X W h1 h2 h3 h4 h5 O => by
    have C := O.ctx h1 h2 h3 h4 h5 sc_read_number.nd
    exact (dss_cons (ds_if (PW.pt (dw_or (dt_not (dt_chain op_le op_le ops_le ops_le de_int (xlen C T.n_len rfl (da_cons (xv C 0 rfl rfl) da_nil)) (xint C T.i_MAX_DIGITS rfl))) (dw_or1 (dt_not (dt_val (xall C T.n_all rfl (da_cons (de_lstO (xlc C [("sign", 1)] [1] (dig_of (di_str (xv C 0 rfl rfl))) rfl (fun Y C' fnY => ⟨(gname C' 1 rfl rfl (.inr rfl)), dts_nil, (de_inS (xv C' 1 rfl rfl) (xstr C' T.s_DIGITS rfl))⟩))) da_nil))))))) (dss_one (ds_ret de_non)) dss_nil)
    (dss_one (ds_ret (xintS C T.n_int rfl (da_cons (xv C 0 rfl rfl) da_nil)))))
theorem ok_read_number (T : Tc mg K base) : Fd P w K mg base 1 "read_number" 1 (m_read_number K) := by
  obtain ⟨fd, F⟩ := T.f_read_number
  exact fd_of F T.r_read_number (F.bindsN fun _ _ _ _ _ _ us hl => match us, hl with | [_], _ => rfl) (fk_read_number T F)

/-! ### parse_scheme -/

def g_parse_scheme (K : PySem.W.Frag) : SD :=
    (sSeq (sIf (bNot (asB (eArgs gIsi (aCons (eVar 0) (aCons (eC (.ty "str")) aNil))))) (sRaise (He.ga K "ParseError")) sNil)
    (sSeq (sSet 1 (eM1 gSplit (eVar 0) (eC (.str ": "))))
    (sSeq (sOwn 2 (oLc (iSeqD (eM1 gSplit (op2 gIx (eVar 1) (eNeg (eC (.int 1)))) (eC (.str ", ")))) (gSet 4) bYes (eArgs gTuple (aCons (eLst (oLc (iSeqD (eM1 gSplit (eVar 4) (eC (.str " ")))) (gSet 5) bYes (eCall (m_read_number K) (aCons (eVar 5) aNil)) [5])) aNil)) [4]))
    (sFrz 2 (sSeq (sSet 3 (eArgs gTupD (aCons (eCall (m_read_number K) (aCons (op2 gIx (eVar 1) (eC (.int 0))) aNil)) (aCons (eArgs gTuple (aCons (eVar 2) aNil)) aNil))))
    (sSeq (sIf (bOr (bNot (asB (eCall (m_is_scheme K) (aCons (eVar 3) aNil)))) (asB (op2 gNe (eCall (m_scheme_text K) (aCons (eVar 3) aNil)) (eVar 0)))) (sRaise (He.ga K "ParseError")) sNil)
    (sRet (eVar 3))))))))
def m_parse_scheme (K : PySem.W.Frag) : List D → R D := fnD 6 (g_parse_scheme K)
theorem sc_parse_scheme : FnScope ["text", "parts", "rows", "scheme", "row", "word"] ["text"] (defScope (topS 32)) := ⟨rfl, rfl, rfl, by decide +kernel, rfl, by decide +kernel, by decide +kernel⟩
theorem fk_parse_scheme (T : Tc mg K base) {fd : FuncData} (F : FunD K "parse_scheme" "parse_scheme" (defArgs (topS 32)) (defBody (topS 32)) (defScope (topS 32)) [] [] (He.ga K "parse_scheme") fd) : FnOk P w K mg base (L2.CX P w) 4 (He.ga K "parse_scheme") fd ["text"] (spD K 1 (m_parse_scheme K)) := by
  exact fn_okD (k := 3) F sc_parse_scheme fun X W h1 h2 h3 h4 h5 O => by
    have C := O.ctx h1 h2 h3 h4 h5 sc_parse_scheme.nd
    exact (dss_cons (ds_if (dt_not (dt_val (xisi C T.n_isinstance rfl (da_cons (xv C 0 rfl rfl) (da_cons (xty C (T := "str") T.n_str (by decide +kernel) rfl) da_nil))))) (dss_one (yraise C T.r_ParseError T.x_ParseError rfl)) dss_nil)
    (dss_cons (yset C 1 rfl rfl (.inl (O.fn _)) (de_split (xv C 0 rfl rfl) de_str))
    (dss_cons (ylc C 2 [("row", 4)] [4] rfl rfl (sw_lc rfl rfl rfl rfl) (dig_of (di_seq (de_split (de_ix (xv C 1 rfl rfl) (de_neg de_int)) de_str))) rfl (fun Y C' fnY => ⟨(gname C' 4 rfl rfl (.inr rfl)), dts_nil, (xtuple C' T.n_tuple rfl (da_cons (de_lstO (xlc C' [("word", 5)] [5] (dig_of (di_seq (de_split (xv C' 4 rfl rfl) de_str))) rfl (fun Y C'' fnY => ⟨(gname C'' 5 rfl rfl (.inr rfl)), dts_nil, (xcall C'' (ok_read_number T) (by decide) rfl (da_cons (xv C'' 5 rfl rfl) da_nil) (aCons_len (aNil_len rfl)))⟩))) da_nil))⟩))
    (dss_frz 2 (dss_cons (yset C 3 rfl rfl (.inl (O.fn _)) (de_tup (da_cons (xcall C (ok_read_number T) (by decide) rfl (da_cons (de_ix (xv C 1 rfl rfl) de_int) da_nil) (aCons_len (aNil_len rfl))) (da_cons (xtuple C T.n_tuple rfl (da_cons (xv C 2 rfl rfl) da_nil)) da_nil))))
    (dss_cons (ds_if (PW.pt (dw_or (dt_not (dt_val (xcall C (ok_is_scheme T) (by decide) rfl (da_cons (xv C 3 rfl rfl) da_nil) (aCons_len (aNil_len rfl))))) (dw_or1 (dt_ne C.hu (xcall C (ok_scheme_text T) (by decide) rfl (da_cons (xv C 3 rfl rfl) da_nil) (aCons_len (aNil_len rfl))) (xv C 0 rfl rfl))))) (dss_one (yraise C T.r_ParseError T.x_ParseError rfl)) dss_nil)
    (dss_one (ds_ret (xv C 3 rfl rfl)))))))))
theorem ok_parse_scheme (T : Tc mg K base) : Fd P w K mg base 4 "parse_scheme" 1 (m_parse_scheme K) := by
  obtain ⟨fd, F⟩ := T.f_parse_scheme
  exact fd_of F T.r_parse_scheme (F.bindsN fun _ _ _ _ _ _ us hl => match us, hl with | [_], _ => rfl) (fk_parse_scheme T F)

/-! ### check_filter -/

def g_check_filter (K : PySem.W.Frag) : SD :=
    (sIf (bNot (asB (eCall (m_is_rising K) (aCons (eVar 1) (aCons (op2 gSub (op2 gIx (eVar 0) (eC (.int 0))) (eC (.int 1))) aNil))))) (sRaise (He.ga K "InvalidFilter")) sNil)
def m_check_filter (K : PySem.W.Frag) : List D → R D := fnD 2 (g_check_filter K)
theorem sc_check_filter : FnScope ["scheme", "value"] ["scheme", "value"] (defScope (topS 23)) := ⟨rfl, rfl, rfl, by decide +kernel, rfl, by decide +kernel, by decide +kernel⟩
theorem fk_check_filter (T : Tc mg K base) {fd : FuncData} (F : FunD K "check_filter" "check_filter" (defArgs (topS 23)) (defBody (topS 23)) (defScope (topS 23)) [] [] (He.ga K "check_filter") fd) : FnOk P w K mg base (L2.CX P w) 3 (He.ga K "check_filter") fd ["scheme", "value"] (spD K 2 (m_check_filter K)) := by
  exact fn_okD (k := 2) F sc_check_filter fun X W h1 h2 h3 h4 h5 O => by
    have C := O.ctx h1 h2 h3 h4 h5 sc_check_filter.nd
    exact (dss_one (ds_if (dt_not (dt_val (xcall C (ok_is_rising T) (by decide) rfl (da_cons (xv C 1 rfl rfl) (da_cons (de_sub (de_ix (xv C 0 rfl rfl) de_int) de_int) da_nil)) (aCons_len (aCons_len (aNil_len rfl)))))) (dss_one (yraise C T.r_InvalidFilter T.x_InvalidFilter rfl)) dss_nil))
theorem ok_check_filter (T : Tc mg K base) : Fd P w K mg base 3 "check_filter" 2 (m_check_filter K) := by
  obtain ⟨fd, F⟩ := T.f_check_filter
  exact fd_of F T.r_check_filter (F.bindsN fun _ _ _ _ _ _ us hl => match us, hl with | [_, _], _ => rfl) (fk_check_filter T F)

/-! ### format_filter -/

def g_format_filter (K : PySem.W.Frag) : SD :=
    (sSeq (sDrop (eCall (m_check_scheme K) (aCons (eVar 0) aNil)))
    (sSeq (sDrop (eCall (m_check_filter K) (aCons (eVar 0) (aCons (eVar 1) aNil))))
    (sRet (eM1 gJoin (eC (.str "")) (eLst (oLc (iRange (aCons (op2 gIx (eVar 0) (eC (.int 0))) aNil)) (gSet 2) bYes (eIf (asB (op2 gIn (eVar 2) (eVar 1))) (eC (.str "#")) (eC (.str "."))) [2]))))))
def m_format_filter (K : PySem.W.Frag) : List D → R D := fnD 3 (g_format_filter K)
theorem sc_format_filter : FnScope ["scheme", "bits", "bit"] ["scheme", "bits"] (defScope (topS 33)) := ⟨rfl, rfl, rfl, by decide +kernel, rfl, by decide +kernel, by decide +kernel⟩
theorem fk_format_filter (T : Tc mg K base) {fd : FuncData} (F : FunD K "format_filter" "format_filter" (defArgs (topS 33)) (defBody (topS 33)) (defScope (topS 33)) [] [] (He.ga K "format_filter") fd) : FnOk P w K mg base (L2.CX P w) 5 (He.ga K "format_filter") fd ["scheme", "bits"] (spD K 2 (m_format_filter K)) := by
  exact fn_okD (k := 4) F sc_format_filter fun X W h1 h2 h3 h4 h5 O => by
    have C := O.ctx h1 h2 h3 h4 h5 sc_format_filter.nd
    exact (dss_cons (ds_expr (xcall C (ok_check_scheme T) (by decide) rfl (da_cons (xv C 0 rfl rfl) da_nil) (aCons_len (aNil_len rfl))))
    (dss_cons (ds_expr (xcall C (ok_check_filter T) (by decide) rfl (da_cons (xv C 0 rfl rfl) (da_cons (xv C 1 rfl rfl) da_nil)) (aCons_len (aCons_len (aNil_len rfl)))))
    (dss_one (ds_ret (de_join de_str (de_lstO (xlc C [("bit", 2)] [2] (dig_of (irange1 C T.n_range rfl (da_cons (de_ix (xv C 0 rfl rfl) de_int) da_nil) (aCons_len (aNil_len rfl)))) rfl (fun Y C' fnY => ⟨(gname C' 2 rfl rfl (.inr rfl)), dts_nil, (de_ifExp (dt_in C'.hu (xv C' 2 rfl rfl) (xv C' 1 rfl rfl)) (xstr C' T.s_SET rfl) (xstr C' T.s_CLEAR rfl))⟩))))))))
theorem ok_format_filter (T : Tc mg K base) : Fd P w K mg base 5 "format_filter" 2 (m_format_filter K) := by
  obtain ⟨fd, F⟩ := T.f_format_filter
  exact fd_of F T.r_format_filter (F.bindsN fun _ _ _ _ _ _ us hl => match us, hl with | [_, _], _ => rfl) (fk_format_filter T F)

/-! ### parse_filter -/

def g_parse_filter (K : PySem.W.Frag) : SD :=
    (sSeq (sDrop (eCall (m_check_scheme K) (aCons (eVar 0) aNil)))
    (sSeq (sIf (bOr (bNot (asB (eArgs gIsi (aCons (eVar 1) (aCons (eC (.ty "str")) aNil))))) (bOr (asB (op2 gNe (eArgs gLen (aCons (eVar 1) aNil)) (op2 gIx (eVar 0) (eC (.int 0))))) (bNot (asB (eArgs gAll (aCons (eLst (oLc (iStrD (eVar 1)) (gSet 3) bYes (op2 gIn (eVar 3) (eArgs gTupD (aCons (eC (.str "#")) (aCons (eC (.str ".")) aNil)))) [3])) aNil)))))) (sRaise (He.ga K "ParseError")) sNil)
    (sRet (eArgs gTuple (aCons (eLst (oLc (iRange (aCons (op2 gIx (eVar 0) (eC (.int 0))) aNil)) (gSet 2) (asB (op2 gEq (op2 gIxS (eVar 1) (eVar 2)) (eC (.str "#")))) (eVar 2) [2])) aNil)))))
def m_parse_filter (K : PySem.W.Frag) : List D → R D := fnD 4 (g_parse_filter K)
theorem sc_parse_filter : FnScope ["scheme", "text", "bit", "sign"] ["scheme", "text"] (defScope (topS 34)) := ⟨rfl, rfl, rfl, by decide +kernel, rfl, by decide +kernel, by decide +kernel⟩
theorem fk_parse_filter (T : Tc mg K base) {fd : FuncData} (F : FunD K "parse_filter" "parse_filter" (defArgs (topS 34)) (defBody (topS 34)) (defScope (topS 34)) [] [] (He.ga K "parse_filter") fd) : FnOk P w K mg base (L2.CX P w) 5 (He.ga K "parse_filter") fd ["scheme", "text"] (spD K 2 (m_parse_filter K)) := by
  exact fn_okD (k := 4) F sc_parse_filter fun X W h1 h2 h3 h4 h5 O => by
    have C := O.ctx h1 h2 h3 h4 h5 sc_parse_filter.nd
    exact (dss_cons (ds_expr (xcall C (ok_check_scheme T) (by decide) rfl (da_cons (xv C 0 rfl rfl) da_nil) (aCons_len (aNil_len rfl))))
    (dss_cons (ds_if (PW.pt (dw_or (dt_not (dt_val (xisi C T.n_isinstance rfl (da_cons (xv C 1 rfl rfl) (da_cons (xty C (T := "str") T.n_str (by decide +kernel) rfl) da_nil))))) (dw_or (dt_ne C.hu (xlen C T.n_len rfl (da_cons (xv C 1 rfl rfl) da_nil)) (de_ix (xv C 0 rfl rfl) de_int)) (dw_or1 (dt_not (dt_val (xall C T.n_all rfl (da_cons (de_lstO (xlc C [("sign", 3)] [3] (dig_of (di_str (xv C 1 rfl rfl))) rfl (fun Y C' fnY => ⟨(gname C' 3 rfl rfl (.inr rfl)), dts_nil, (de_in C'.hu (xv C' 3 rfl rfl) (de_tup (da_cons (xstr C' T.s_SET rfl) (da_cons (xstr C' T.s_CLEAR rfl) da_nil))))⟩))) da_nil)))))))) (dss_one (yraise C T.r_ParseError T.x_ParseError rfl)) dss_nil)
    (dss_one (ds_ret (xtuple C T.n_tuple rfl (da_cons (de_lstO (xlc C [("bit", 2)] [2] (dig_of (irange1 C T.n_range rfl (da_cons (de_ix (xv C 0 rfl rfl) de_int) da_nil) (aCons_len (aNil_len rfl)))) rfl (fun Y C' fnY => ⟨(gname C' 2 rfl rfl (.inr rfl)), (dts_one (dt_eq C'.hu (de_ixS (xv C' 1 rfl rfl) (xv C' 2 rfl rfl)) (xstr C' T.s_SET rfl))), (xv C' 2 rfl rfl)⟩))) da_nil))))))
theorem ok_parse_filter (T : Tc mg K base) : Fd P w K mg base 5 "parse_filter" 2 (m_parse_filter K) := by
  obtain ⟨fd, F⟩ := T.f_parse_filter
  exact fd_of F T.r_parse_filter (F.bindsN fun _ _ _ _ _ _ us hl => match us, hl with | [_, _], _ => rfl) (fk_parse_filter T F)

/-! ### _law_pick -/
def b1__law_pick (K : PySem.W.Frag) : SD :=
    (sPar [4, 5] (mVal (op2 gFdivW (eVar 4) (eC (.int 840))) (mVal (op2 gSub (eVar 5) (eC (.int 1))) mNil)))
def g__law_pick (K : PySem.W.Frag) : SD :=
    (sSeq (sSet 3 (eIf (asB (op2 gNe (eVar 0) (eArgs gLstD aNil))) (op2 gIx (eVar 0) (op2 gMod (eVar 1) (eArgs gLen (aCons (eVar 0) aNil)))) (eC (.int 0))))
    (sSeq (sPar [4, 5] (mVal (op2 gFdivW (eVar 3) (op2 gPow (eC (.int 10)) (eC (.int 18)))) (mVal (op2 gFdivW (eVar 1) (eArgs gMax (aCons (eArgs gLen (aCons (eVar 0) aNil)) (aCons (eC (.int 1)) aNil)))) mNil)))
    (sSeq (whileN (bAnd (asB (op2 gGt0 (eVar 4) (eC (.int 0)))) (asB (op2 gGt0 (eVar 5) (eC (.int 0))))) (b1__law_pick K) 400)
    (sSeq (sIf (asB (op2 gGt0 (eVar 4) (eC (.int 0)))) (sRet (op2 gMod (op2 gMod (eVar 4) (eC (.int 840))) (eVar 2))) sNil)
    (sSeq (sSet 6 (op2 gMod (op2 gMul (op2 gAdd (op2 gMul (eVar 3) (eC (.int 31))) (op2 gMul (eC (.int 6151)) (op2 gAdd (eVar 1) (eC (.int 1))))) (eC (.int 40692))) (eC (.int 2147483399))))
    (sRet (op2 gMod (op2 gMod (op2 gAdd (op2 gMul (eVar 6) (eVar 6)) (op2 gFdivW (eVar 6) (eC (.int 31)))) (eC (.int 2147483629))) (eVar 2))))))))
def m__law_pick (K : PySem.W.Frag) : List D → R D := fnD 7 (g__law_pick K)
theorem sc__law_pick : FnScope ["script", "k", "many", "cell", "rest", "again", "drawn"] ["script", "k", "many"] (defScope (topS 36)) := ⟨rfl, rfl, rfl, by decide +kernel, rfl, by decide +kernel, by decide +kernel⟩
theorem fk__law_pick (T : Tc mg K base) {fd : FuncData} (F : FunD K "_law_pick" "_law_pick" (defArgs (topS 36)) (defBody (topS 36)) (defScope (topS 36)) [] [] (He.ga K "_law_pick") fd) : FnOk P w K mg base (L2.CX P w) 1 (He.ga K "_law_pick") fd ["script", "k", "many"] (spD K 3 (m__law_pick K)) := by
  exact fn_okD (k := 0) F sc__law_pick fun X W h1 h2 h3 h4 h5 O => by
    have C := O.ctx h1 h2 h3 h4 h5 sc__law_pick.nd
    exact (dss_cons (yset C 3 rfl rfl (.inl (O.fn _)) (de_ifExp (dt_ne C.hu (xv C 0 rfl rfl) (de_lst da_nil)) (de_ix (xv C 0 rfl rfl) (de_mod (xv C 1 rfl rfl) (xlen C T.n_len rfl (da_cons (xv C 0 rfl rfl) da_nil)))) de_int))
    (dss_cons (ypar2 C 4 5 rfl rfl (by decide) rfl rfl (dm_val (de_fdivW (xv C 3 rfl rfl) (de_pow de_int de_int)) (dm_val (de_fdivW (xv C 1 rfl rfl) (xmax C T.n_max rfl (da_cons (xlen C T.n_len rfl (da_cons (xv C 0 rfl rfl) da_nil)) (da_cons de_int da_nil)))) dm_nil)) (sw_par rfl (by decide +kernel)))
    (dss_cons (ds_while 400 O.own (PW.pt (dw_and (dt_cmp op_gt ops_gt (xv C 4 rfl rfl) de_int (nomark _)) (dw_and1 (dt_cmp op_gt ops_gt (xv C 5 rfl rfl) de_int (nomark _))))) (dss_one (ypar2 C 4 5 rfl rfl (by decide) rfl rfl (dm_val (de_fdivW (xv C 4 rfl rfl) de_int) (dm_val (de_sub (xv C 5 rfl rfl) de_int) dm_nil)) (sw_par rfl (by decide +kernel)))))
    (dss_cons (ds_if (dt_cmp op_gt ops_gt (xv C 4 rfl rfl) de_int (nomark _)) (dss_one (ds_ret (de_mod (de_mod (xv C 4 rfl rfl) de_int) (xv C 2 rfl rfl)))) dss_nil)
    (dss_cons (yset C 6 rfl rfl (.inl (O.fn _)) (de_mod (de_mul (de_add (de_mul (xv C 3 rfl rfl) de_int) (de_mul de_int (de_add (xv C 1 rfl rfl) de_int))) de_int) de_int))
    (dss_one (ds_ret (de_mod (de_mod (de_add (de_mul (xv C 6 rfl rfl) (xv C 6 rfl rfl)) (de_fdivW (xv C 6 rfl rfl) de_int)) de_int) (xv C 2 rfl rfl)))))))))
theorem ok__law_pick (T : Tc mg K base) : Fd P w K mg base 1 "_law_pick" 3 (m__law_pick K) := by
  obtain ⟨fd, F⟩ := T.f__law_pick
  exact fd_of F T.r__law_pick (F.bindsN fun _ _ _ _ _ _ us hl => match us, hl with | [_, _, _], _ => rfl) (fk__law_pick T F)

/-! ### _law_some -/

def g__law_some (K : PySem.W.Frag) : SD :=
    (sRet (eArgs gTuple (aCons (eLst (oLc (iRange (aCons (eVar 2) aNil)) (gSet 4) (asB (op2 gLt (eCall (m__law_pick K) (aCons (eVar 0) (aCons (op2 gAdd (eVar 1) (eVar 4)) (aCons (eC (.int 100)) aNil)))) (eVar 3))) (eVar 4) [4])) aNil)))
def m__law_some (K : PySem.W.Frag) : List D → R D := fnD 5 (g__law_some K)
theorem sc__law_some : FnScope ["script", "place", "most", "chance", "part"] ["script", "place", "most", "chance"] (defScope (topS 37)) := ⟨rfl, rfl, rfl, by decide +kernel, rfl, by decide +kernel, by decide +kernel⟩
theorem fk__law_some (T : Tc mg K base) {fd : FuncData} (F : FunD K "_law_some" "_law_some" (defArgs (topS 37)) (defBody (topS 37)) (defScope (topS 37)) [] [] (He.ga K "_law_some") fd) : FnOk P w K mg base (L2.CX P w) 2 (He.ga K "_law_some") fd ["script", "place", "most", "chance"] (spD K 4 (m__law_some K)) := by
  exact fn_okD (k := 1) F sc__law_some fun X W h1 h2 h3 h4 h5 O => by
    have C := O.ctx h1 h2 h3 h4 h5 sc__law_some.nd
    exact (dss_one (ds_ret (xtuple C T.n_tuple rfl (da_cons (de_lstO (xlc C [("part", 4)] [4] (dig_of (irange1 C T.n_range rfl (da_cons (xv C 2 rfl rfl) da_nil) (aCons_len (aNil_len rfl)))) rfl (fun Y C' fnY => ⟨(gname C' 4 rfl rfl (.inr rfl)), (dts_one (dt_lt C'.hu (xcall C' (ok__law_pick T) (by decide) rfl (da_cons (xv C' 0 rfl rfl) (da_cons (de_add (xv C' 1 rfl rfl) (xv C' 4 rfl rfl)) (da_cons de_int da_nil))) (aCons_len (aCons_len (aCons_len (aNil_len rfl))))) (xv C' 3 rfl rfl))), (xv C' 4 rfl rfl)⟩))) da_nil))))
theorem ok__law_some (T : Tc mg K base) : Fd P w K mg base 2 "_law_some" 4 (m__law_some K) := by
  obtain ⟨fd, F⟩ := T.f__law_some
  exact fd_of F T.r__law_some (F.bindsN fun _ _ _ _ _ _ us hl => match us, hl with | [_, _, _, _], _ => rfl) (fk__law_some T F)

/-! ### _law_scheme -/
def b1__law_scheme (K : PySem.W.Frag) : SD :=
    (sSeq (sSet 6 (op2 gAdd (op2 gAdd (eVar 1) (eC (.int 2))) (op2 gMul (eC (.int 6)) (eVar 5))))
    (sSeq (sSet 7 (eSl (eCall (m__law_some K) (aCons (eVar 0) (aCons (eVar 6) (aCons (eArgs gMinD (aCons (eVar 3) (aCons (eC (.int 6)) aNil))) (aCons (eC (.int 45)) aNil))))) (oPart none) (oPart (some (op2 gAdd (eC (.int 1)) (eCall (m__law_pick K) (aCons (eVar 0) (aCons (op2 gAdd (eVar 6) (eC (.int 5))) (aCons (eC (.int 4)) aNil)))))))))
    (sSeq (sSet 7 (eIf (asB (op2 gNe (eVar 7) (eArgs gTupD aNil))) (eVar 7) (eArgs gTupD (aCons (eCall (m__law_pick K) (aCons (eVar 0) (aCons (op2 gAdd (eVar 6) (eC (.int 4))) (aCons (eVar 3) aNil)))) aNil))))
    (sApp 4 (eThaw 4 (eIf (bAnd (asB (op2 gNe (eVar 4) (eArgs gLstD aNil))) (asB (op2 gEq (eCall (m__law_pick K) (aCons (eVar 0) (aCons (op2 gAdd (eVar 6) (eC (.int 3))) (aCons (eC (.int 14)) aNil)))) (eC (.int 0))))) (op2 gIx (eVar 4) (eNeg (eC (.int 1)))) (eVar 7)))))))
def g__law_scheme (K : PySem.W.Frag) : SD :=
    (sSeq (sPar [3, 4] (mVal (op2 gAdd (eC (.int 2)) (eCall (m__law_pick K) (aCons (eVar 0) (aCons (eVar 1) (aCons (eC (.int 7)) aNil))))) (mOwn (oArgs aNil) mNil)))
    (sSeq (sFor (iRange (aCons (op2 gAdd (eC (.int 1)) (eCall (m__law_pick K) (aCons (eVar 0) (aCons (op2 gAdd (eVar 1) (eC (.int 1))) (aCons (eVar 2) aNil))))) aNil)) (gSet 5) (b1__law_scheme K))
    (sFrz 4 (sRet (eArgs gTupD (aCons (eVar 3) (aCons (eArgs gTuple (aCons (eVar 4) aNil)) aNil)))))))
def m__law_scheme (K : PySem.W.Frag) : List D → R D := fnD 8 (g__law_scheme K)
theorem sc__law_scheme : FnScope ["script", "place", "keys", "size", "rows", "key", "at", "row"] ["script", "place", "keys"] (defScope (topS 38)) := ⟨rfl, rfl, rfl, by decide +kernel, rfl, by decide +kernel, by decide +kernel⟩
theorem fk__law_scheme (T : Tc mg K base) {fd : FuncData} (F : FunD K "_law_scheme" "_law_scheme" (defArgs (topS 38)) (defBody (topS 38)) (defScope (topS 38)) [] [] (He.ga K "_law_scheme") fd) : FnOk P w K mg base (L2.CX P w) 3 (He.ga K "_law_scheme") fd ["script", "place", "keys"] (spD K 3 (m__law_scheme K)) := by
  exact fn_okD (k := 2) F sc__law_scheme fun X W h1 h2 h3 h4 h5 O => by
    have C := O.ctx h1 h2 h3 h4 h5 sc__law_scheme.nd
    exact (dss_cons (ypar2 C 3 4 rfl rfl (by decide) rfl rfl (dm_val (de_add de_int (xcall C (ok__law_pick T) (by decide) rfl (da_cons (xv C 0 rfl rfl) (da_cons (xv C 1 rfl rfl) (da_cons de_int da_nil))) (aCons_len (aCons_len (aCons_len (aNil_len rfl)))))) (dm_own (do_lst da_nil) dm_nil)) (sw_par rfl (by decide +kernel)))
    (dss_cons (ds_for O.own C.calm (irange1 C T.n_range rfl (da_cons (de_add de_int (xcall C (ok__law_pick T) (by decide) rfl (da_cons (xv C 0 rfl rfl) (da_cons (de_add (xv C 1 rfl rfl) de_int) (da_cons (xv C 2 rfl rfl) da_nil))) (aCons_len (aCons_len (aCons_len (aNil_len rfl)))))) da_nil) (aCons_len (aNil_len rfl))) (gname C 5 rfl rfl (.inl (O.fn _))) (dss_cons (yset C 6 rfl rfl (.inl (O.fn _)) (de_add (de_add (xv C 1 rfl rfl) de_int) (de_mul de_int (xv C 5 rfl rfl))))
    (dss_cons (yset C 7 rfl rfl (.inl (O.fn _)) (de_slice (xcall C (ok__law_some T) (by decide) rfl (da_cons (xv C 0 rfl rfl) (da_cons (xv C 6 rfl rfl) (da_cons (xminD C T.n_min rfl (da_cons (xv C 3 rfl rfl) (da_cons de_int da_nil))) (da_cons de_int da_nil)))) (aCons_len (aCons_len (aCons_len (aCons_len (aNil_len rfl)))))) dpo_none (dpo_some (de_add de_int (xcall C (ok__law_pick T) (by decide) rfl (da_cons (xv C 0 rfl rfl) (da_cons (de_add (xv C 6 rfl rfl) de_int) (da_cons de_int da_nil))) (aCons_len (aCons_len (aCons_len (aNil_len rfl)))))))))
    (dss_cons (yset C 7 rfl rfl (.inl (O.fn _)) (de_ifExp (dt_ne C.hu (xv C 7 rfl rfl) (de_tup da_nil)) (xv C 7 rfl rfl) (de_tup (da_cons (xcall C (ok__law_pick T) (by decide) rfl (da_cons (xv C 0 rfl rfl) (da_cons (de_add (xv C 6 rfl rfl) de_int) (da_cons (xv C 3 rfl rfl) da_nil))) (aCons_len (aCons_len (aCons_len (aNil_len rfl))))) da_nil))))
    (dss_one (yapp C 4 rfl rfl (de_thaw 4 (de_ifExp (PW.pt (dw_and (dt_ne C.hu (xv C 4 rfl rfl) (de_lst da_nil)) (dw_and1 (dt_eq C.hu (xcall C (ok__law_pick T) (by decide) rfl (da_cons (xv C 0 rfl rfl) (da_cons (de_add (xv C 6 rfl rfl) de_int) (da_cons de_int da_nil))) (aCons_len (aCons_len (aCons_len (aNil_len rfl))))) de_int)))) (de_ix (xv C 4 rfl rfl) (de_neg de_int)) (xv C 7 rfl rfl)))))))))
    (dss_frz 4 (dss_one (ds_ret (de_tup (da_cons (xv C 3 rfl rfl) (da_cons (xtuple C T.n_tuple rfl (da_cons (xv C 4 rfl rfl) da_nil)) da_nil))))))))
theorem ok__law_scheme (T : Tc mg K base) : Fd P w K mg base 3 "_law_scheme" 3 (m__law_scheme K) := by
  obtain ⟨fd, F⟩ := T.f__law_scheme
  exact fd_of F T.r__law_scheme (F.bindsN fun _ _ _ _ _ _ us hl => match us, hl with | [_, _, _], _ => rfl) (fk__law_scheme T F)

/-! ### _law_class -/
def g__law_class (K : PySem.W.Frag) (cl a : Addr) : SD :=
    (sSeq (sOwn 1 (oArgs (aCons (eArgs (gIsE K cl a) (aCons (eVar 0) (aCons (eC (.ref (He.ga K "InvalidScheme"))) aNil))) (aCons (eArgs (gIsE K cl a) (aCons (eVar 0) (aCons (eC (.ref (He.ga K "InvalidKeys"))) aNil))) aNil))))
    (sSeq (sExt 1 (eArgs gLstD (aCons (eArgs (gIsE K cl a) (aCons (eVar 0) (aCons (eC (.ref (He.ga K "InvalidFilter"))) aNil))) (aCons (eArgs (gIsE K cl a) (aCons (eVar 0) (aCons (eC (.ref (He.ga K "InvalidNumber"))) aNil))) aNil))))
    (sSeq (sExt 1 (eArgs gLstD (aCons (eArgs (gIsE K cl a) (aCons (eVar 0) (aCons (eC (.ref (He.ga K "InvalidKey"))) aNil))) (aCons (eArgs (gIsE K cl a) (aCons (eVar 0) (aCons (eC (.ref (He.ga K "OddSize"))) aNil))) aNil))))
    (sSeq (sExt 1 (eArgs gLstD (aCons (eArgs (gIsE K cl a) (aCons (eVar 0) (aCons (eC (.ref (He.ga K "InvalidCounters"))) aNil))) (aCons (eArgs (gIsE K cl a) (aCons (eVar 0) (aCons (eC (.ref (He.ga K "InvalidHistory"))) aNil))) aNil))))
    (sSeq (sExt 1 (eArgs gLstD (aCons (eArgs (gIsE K cl a) (aCons (eVar 0) (aCons (eC (.ref (He.ga K "AlreadyThere"))) aNil))) (aCons (eArgs (gIsE K cl a) (aCons (eVar 0) (aCons (eC (.ref (He.ga K "NotThere"))) aNil))) aNil))))
    (sSeq (sExt 1 (eArgs gLstD (aCons (eArgs (gIsE K cl a) (aCons (eVar 0) (aCons (eC (.ref (He.ga K "NothingToUndo"))) aNil))) (aCons (eArgs (gIsE K cl a) (aCons (eVar 0) (aCons (eC (.ref (He.ga K "ParseError"))) aNil))) aNil))))
    (sSeq (sExt 1 (eArgs gLstD (aCons (eArgs (gIsE K cl a) (aCons (eVar 0) (aCons (eC (.ref (He.ga K "TooLarge"))) aNil))) aNil)))
    (sFrz 1 (sSeq (sIf (bOr (asB (op2 gNe (eCountB (eVar 1) (aCons (eC (.bl true)) aNil)) (eC (.int 1)))) (bNot (asB (eArgs (gIsE K cl a) (aCons (eVar 0) (aCons (eC (.ty "ValueError")) aNil)))))) (sRet (eC (.str "wrong"))) sNil)
    (sSeq (sOwn 2 (oArgs (aCons (eC (.str "InvalidScheme")) (aCons (eC (.str "InvalidKeys")) (aCons (eC (.str "InvalidFilter")) (aCons (eC (.str "InvalidNumber")) (aCons (eC (.str "InvalidKey")) (aCons (eC (.str "OddSize")) aNil))))))))
    (sSeq (sExt 2 (eArgs gLstD (aCons (eC (.str "InvalidCounters")) (aCons (eC (.str "InvalidHistory")) (aCons (eC (.str "AlreadyThere")) (aCons (eC (.str "NotThere")) aNil))))))
    (sSeq (sExt 2 (eArgs gLstD (aCons (eC (.str "NothingToUndo")) (aCons (eC (.str "ParseError")) (aCons (eC (.str "TooLarge")) aNil)))))
    (sFrz 2 (sRet (op2 gIx (eVar 2) (eIndex (eVar 1) (aCons (eC (.bl true)) aNil)))))))))))))))))
noncomputable def m__law_class (K : PySem.W.Frag) : Addr → R D := fun cl => hotD 3 (g__law_class K cl)
theorem sc__law_class : FnScope ["error", "kinds", "names"] ["error"] (defScope (topS 39)) := ⟨rfl, rfl, rfl, by decide +kernel, rfl, by decide +kernel, by decide +kernel⟩
theorem ok__law_class (T : Tc mg K base) : Hot P w K mg base 1 "_law_class" (m__law_class K) := by
  obtain ⟨fd, F⟩ := T.f__law_class
  exact ⟨_, fd, ["error"].headD "", T.r__law_class, hot_of (k := 0) F sc__law_class sc__law_class.nd (fun Y cl a C fn hI => by
    exact (dss_cons (sown C 1 rfl rfl (do_lst (da_cons (sisi C hI T.n_isinstance rfl (da_cons (sv C 0 rfl rfl) (da_cons (sref C T.r_InvalidScheme rfl) da_nil))) (da_cons (sisi C hI T.n_isinstance rfl (da_cons (sv C 0 rfl rfl) (da_cons (sref C T.r_InvalidKeys rfl) da_nil))) da_nil))))
    (dss_cons (sext C 1 rfl rfl (de_lst (da_cons (sisi C hI T.n_isinstance rfl (da_cons (sv C 0 rfl rfl) (da_cons (sref C T.r_InvalidFilter rfl) da_nil))) (da_cons (sisi C hI T.n_isinstance rfl (da_cons (sv C 0 rfl rfl) (da_cons (sref C T.r_InvalidNumber rfl) da_nil))) da_nil))))
    (dss_cons (sext C 1 rfl rfl (de_lst (da_cons (sisi C hI T.n_isinstance rfl (da_cons (sv C 0 rfl rfl) (da_cons (sref C T.r_InvalidKey rfl) da_nil))) (da_cons (sisi C hI T.n_isinstance rfl (da_cons (sv C 0 rfl rfl) (da_cons (sref C T.r_OddSize rfl) da_nil))) da_nil))))
    (dss_cons (sext C 1 rfl rfl (de_lst (da_cons (sisi C hI T.n_isinstance rfl (da_cons (sv C 0 rfl rfl) (da_cons (sref C T.r_InvalidCounters rfl) da_nil))) (da_cons (sisi C hI T.n_isinstance rfl (da_cons (sv C 0 rfl rfl) (da_cons (sref C T.r_InvalidHistory rfl) da_nil))) da_nil))))
    (dss_cons (sext C 1 rfl rfl (de_lst (da_cons (sisi C hI T.n_isinstance rfl (da_cons (sv C 0 rfl rfl) (da_cons (sref C T.r_AlreadyThere rfl) da_nil))) (da_cons (sisi C hI T.n_isinstance rfl (da_cons (sv C 0 rfl rfl) (da_cons (sref C T.r_NotThere rfl) da_nil))) da_nil))))
    (dss_cons (sext C 1 rfl rfl (de_lst (da_cons (sisi C hI T.n_isinstance rfl (da_cons (sv C 0 rfl rfl) (da_cons (sref C T.r_NothingToUndo rfl) da_nil))) (da_cons (sisi C hI T.n_isinstance rfl (da_cons (sv C 0 rfl rfl) (da_cons (sref C T.r_ParseError rfl) da_nil))) da_nil))))
    (dss_cons (sext C 1 rfl rfl (de_lst (da_cons (sisi C hI T.n_isinstance rfl (da_cons (sv C 0 rfl rfl) (da_cons (sref C T.r_TooLarge rfl) da_nil))) da_nil)))
    (dss_frz 1 (dss_cons (ds_if (PW.pt (dw_or (dt_ne C.hu (scount (sv C 1 rfl rfl) (da_cons de_bl da_nil) (aCons_len (aNil_len rfl))) de_int) (dw_or1 (dt_not (dt_val (sisi C hI T.n_isinstance rfl (da_cons (sv C 0 rfl rfl) (da_cons (sty C (T := "ValueError") T.n_ValueError (by decide +kernel) rfl) da_nil)))))))) (dss_one (ds_ret de_str)) dss_nil)
    (dss_cons (sown C 2 rfl rfl (do_lst (da_cons de_str (da_cons de_str (da_cons de_str (da_cons de_str (da_cons de_str (da_cons de_str da_nil))))))))
    (dss_cons (sext C 2 rfl rfl (de_lst (da_cons de_str (da_cons de_str (da_cons de_str (da_cons de_str da_nil))))))
    (dss_cons (sext C 2 rfl rfl (de_lst (da_cons de_str (da_cons de_str (da_cons de_str da_nil)))))
    (dss_frz 2 (dss_one (ds_ret (de_ix (sv C 2 rfl rfl) (sindex C (sv C 1 rfl rfl) (da_cons de_bl da_nil) (aCons_len (aNil_len rfl)))))))))))))))))))), F.kp, F.bindsN fun _ _ _ _ _ _ us hl => match us, hl with | [_], _ => rfl⟩

/-! ### lambdas -/
def lam_0 : Lam := mkLam 0 "law" (pPath (pVal (pSt (pBody (pSt (defBody (topS 42)) 10)) 0)) [0, 1, 0]) ["value"]
def fb_0 (K : PySem.W.Frag) : DL.Env → R D := (eCall (m_parse_scheme K) (aCons (eVar 0) aNil))
theorem ld_0 (T : Tc mg K base) : LamDen P w K mg base 4 lam_0 (fun ds => fb_0 K (startE 1 ds)) := by
  refine ⟨lamOk_by (by decide +kernel), by decide, fun _ _ _ _ _ => rfl, fb_0 K, fun _ => rfl, fun Y W C => ?_⟩
  exact (xcall C (ok_parse_scheme T) (by decide) rfl (da_cons (xv C 0 rfl rfl) da_nil) (aCons_len (aNil_len rfl)))
def lam_1 : Lam := mkLam 1 "law" (pPath (pVal (pSt (pBody (pSt (defBody (topS 42)) 11)) 0)) [0, 1, 0]) ["scheme", "value"]
def fb_1 (K : PySem.W.Frag) : DL.Env → R D := (eCall (m_parse_filter K) (aCons (eVar 0) (aCons (eVar 1) aNil)))
theorem ld_1 (T : Tc mg K base) : LamDen P w K mg base 5 lam_1 (fun ds => fb_1 K (startE 2 ds)) := by
  refine ⟨lamOk_by (by decide +kernel), by decide, fun _ _ _ _ _ => rfl, fb_1 K, fun _ => rfl, fun Y W C => ?_⟩
  exact (xcall C (ok_parse_filter T) (by decide) rfl (da_cons (xv C 0 rfl rfl) (da_cons (xv C 1 rfl rfl) da_nil)) (aCons_len (aCons_len (aNil_len rfl))))
noncomputable def ltab (K : PySem.W.Frag) : List (Lam × (List D → R D)) := [(lam_0, fun ds => fb_0 K (startE 1 ds)), (lam_1, fun ds => fb_1 K (startE 2 ds))]
noncomputable def LT (K : PySem.W.Frag) : Lam → List D → R D := ltOf (ltab K)
theorem lt_0 (K : PySem.W.Frag) (ds : List D) : LT K lam_0 ds = fb_0 K (startE 1 ds) := ltOf_at (tab := ltab K) (l := lam_0) (f := fun ds => fb_0 K (startE 1 ds)) rfl ds
theorem lt_1 (K : PySem.W.Frag) (ds : List D) : LT K lam_1 ds = fb_1 K (startE 2 ds) := ltOf_at (tab := ltab K) (l := lam_1) (f := fun ds => fb_1 K (startE 2 ds)) rfl ds
theorem lt_den (T : Tc mg K base) : ∀ l ds, LT K l ds ≠ .bad → LamDen P w K mg base 5 l (LT K l) := ltOf_den fun i p h => by
  match i, h with
  | 0, h => cases h; exact (ld_0 T).mono (by decide)
  | 1, h => cases h; exact (ld_1 T).mono (by decide)
  | i + 2, h => simp [ltab] at h

/-! ### _law_result -/

noncomputable def g__law_result (K : PySem.W.Frag) : SD :=
    (sTry (sRet (eLam (LT K) 0)) 1 (fun cl => PySem.W.exmOne K (.ref cl) (.ref (He.ga K "BloomError"))) (hIf [He.ga K "ParseError"] (fun cl a => (sRet (eArgs gTupD (aCons (eC (.str "error")) (aCons (eHot (m__law_class K) cl a (eVar 1)) aNil)))))))
noncomputable def m__law_result (K : PySem.W.Frag) : List D → R D := fnD 2 (g__law_result K)
theorem sc__law_result : FnScope ["call", "error"] ["call"] (defScope (topS 40)) := ⟨rfl, rfl, rfl, by decide +kernel, rfl, by decide +kernel, by decide +kernel⟩
theorem fk__law_result (T : Tc mg K base) {fd : FuncData} (F : FunD K "_law_result" "_law_result" (defArgs (topS 40)) (defBody (topS 40)) (defScope (topS 40)) [] [] (He.ga K "_law_result") fd) : FnOk P w K mg base (L2.CX P w) 7 (He.ga K "_law_result") fd ["call"] (spD K 1 (m__law_result K)) := by
  exact fn_okD (k := 6) F sc__law_result fun X W h1 h2 h3 h4 h5 O => by
    have C := O.ctx h1 h2 h3 h4 h5 sc__law_result.nd
    exact (dss_one (ytryH C O 1 [He.ga K "ParseError"] (by simp only [List.mem_singleton, forall_eq]; exact T.c_ParseError) rfl rfl rfl T.r_BloomError (fun Y V C' hp fn => (dss_one (ds_ret (xlamC C' 0 (lt_den T) (by decide) rfl rfl)))) (fun Y cl a C => (dss_one (ds_ret (de_tup (da_cons de_str (da_cons (shot C (ok__law_class T) (by decide) rfl (sv C.s 1 rfl rfl)) da_nil)))))) (fun cl a ρ d => hotTup cl a ρ d)))
theorem ok__law_result (T : Tc mg K base) : Fd P w K mg base 7 "_law_result" 1 (m__law_result K) := by
  obtain ⟨fd, F⟩ := T.f__law_result
  exact fd_of F T.r__law_result (F.bindsN fun _ _ _ _ _ _ us hl => match us, hl with | [_], _ => rfl) (fk__law_result T F)

/-! ### _law_all -/

noncomputable def g__law_all (K : PySem.W.Frag) : SD :=
    (sRet (eArgs gAll (aCons (eLst (oLc (iSeqD (eVar 0)) (gSet 2) bYes (op2 gEq (eCall (m__law_result K) (aCons (eVar 2) aNil)) (eArgs gTupD (aCons (eC (.str "error")) (aCons (eVar 1) aNil)))) [2])) aNil)))
noncomputable def m__law_all (K : PySem.W.Frag) : List D → R D := fnD 3 (g__law_all K)
theorem sc__law_all : FnScope ["calls", "name", "call"] ["calls", "name"] (defScope (topS 41)) := ⟨rfl, rfl, rfl, by decide +kernel, rfl, by decide +kernel, by decide +kernel⟩
theorem fk__law_all (T : Tc mg K base) {fd : FuncData} (F : FunD K "_law_all" "_law_all" (defArgs (topS 41)) (defBody (topS 41)) (defScope (topS 41)) [] [] (He.ga K "_law_all") fd) : FnOk P w K mg base (L2.CX P w) 8 (He.ga K "_law_all") fd ["calls", "name"] (spD K 2 (m__law_all K)) := by
  exact fn_okD (k := 7) F sc__law_all fun X W h1 h2 h3 h4 h5 O => by
    have C := O.ctx h1 h2 h3 h4 h5 sc__law_all.nd
    exact (dss_one (ds_ret (xall C T.n_all rfl (da_cons (de_lstO (xlc C [("call", 2)] [2] (dig_of (di_seq (xv C 0 rfl rfl))) rfl (fun Y C' fnY => ⟨(gname C' 2 rfl rfl (.inr rfl)), dts_nil, (de_eq C'.hu (xcall C' (ok__law_result T) (by decide) rfl (da_cons (xv C' 2 rfl rfl) da_nil) (aCons_len (aNil_len rfl))) (de_tup (da_cons de_str (da_cons (xv C' 1 rfl rfl) da_nil))))⟩))) da_nil))))
theorem ok__law_all (T : Tc mg K base) : Fd P w K mg base 8 "_law_all" 2 (m__law_all K) := by
  obtain ⟨fd, F⟩ := T.f__law_all
  exact fd_of F T.r__law_all (F.bindsN fun _ _ _ _ _ _ us hl => match us, hl with | [_, _], _ => rfl) (fk__law_all T F)

/-! ### law -/
noncomputable def s1_law (K : PySem.W.Frag) (fr : Fr) : SD :=
    (sSet 1 (eCall (m__law_scheme K) (aCons (eVar 0) (aCons (eC (.int 0)) (aCons (eC (.int 8)) aNil)))))
noncomputable def s2_law (K : PySem.W.Frag) (fr : Fr) : SD :=
    (sSet 2 (eCall (m__law_some K) (aCons (eVar 0) (aCons (eC (.int 60)) (aCons (op2 gIx (eVar 1) (eC (.int 0))) (aCons (eC (.int 50)) aNil))))))
noncomputable def s3_law (K : PySem.W.Frag) (fr : Fr) : SD :=
    (sSet 3 (op2 gAdd (op2 gAdd (eArgs gStr (aCons (op2 gIx (eVar 1) (eC (.int 0))) aNil)) (eC (.str ": "))) (eM1 gJoin (eC (.str ", ")) (eLst (oLc (iSeqD (op2 gIx (eVar 1) (eC (.int 1)))) (gSet 9) bYes (eM1 gJoin (eC (.str " ")) (eLst (oLc (iSeqD (eVar 9)) (gSet 8) bYes (eArgs gStr (aCons (eVar 8) aNil)) [8]))) [9])))))
noncomputable def s4_law (K : PySem.W.Frag) (fr : Fr) : SD :=
    (sSet 4 (eM1 gJoin (eC (.str "")) (eLst (oLc (iRange (aCons (op2 gIx (eVar 1) (eC (.int 0))) aNil)) (gSet 8) bYes (eIf (asB (op2 gIn (eVar 8) (eVar 2))) (eC (.str "#")) (eC (.str "."))) [8]))))
noncomputable def s5_law (K : PySem.W.Frag) (fr : Fr) : SD :=
    (sIf (bOr (asB (op2 gNe (eCall (m_format_scheme K) (aCons (eVar 1) aNil)) (eVar 3))) (asB (op2 gNe (eCall (m_parse_scheme K) (aCons (eVar 3) aNil)) (eVar 1)))) (sRet (eC (.bl false))) sNil)
noncomputable def s6_law (K : PySem.W.Frag) (fr : Fr) : SD :=
    (sIf (bOr (asB (op2 gNe (eCall (m_format_filter K) (aCons (eVar 1) (aCons (eVar 2) aNil))) (eVar 4))) (asB (op2 gNe (eCall (m_parse_filter K) (aCons (eVar 1) (aCons (eVar 4) aNil))) (eVar 2)))) (sRet (eC (.bl false))) sNil)
noncomputable def s7_law (K : PySem.W.Frag) (fr : Fr) : SD :=
    (sSet 5 (eArgs gTupD (aCons (eC (.int 16)) (aCons (eArgs gTupD (aCons (eArgs gTupD (aCons (eC (.int 10)) (aCons (eC (.int 15)) aNil))) (aCons (eArgs gTupD (aCons (eC (.int 0)) (aCons (eC (.int 9)) (aCons (eC (.int 10)) (aCons (eC (.int 11)) aNil))))) aNil))) aNil))))
noncomputable def s8_law (K : PySem.W.Frag) (fr : Fr) : SD :=
    (sIf (bOr (asB (op2 gNe (eCall (m_format_scheme K) (aCons (eVar 5) aNil)) (eC (.str "16: 10 15, 0 9 10 11")))) (asB (op2 gNe (eCall (m_parse_scheme K) (aCons (eC (.str "16: 10 15, 0 9 10 11")) aNil)) (eVar 5)))) (sRet (eC (.bl false))) sNil)
noncomputable def s9_law (K : PySem.W.Frag) (fr : Fr) : SD :=
    (sOwn 6 (oArgs (aCons (eC .non) (aCons (eC (.int 5)) (aCons (eC (.str "")) (aCons (eC (.str "4")) (aCons (eC (.str "4:")) (aCons (eC (.str "4: ")) (aCons (eC (.str "4:0")) (aCons (eC (.str "4: 0,1")) (aCons (eC (.str "4: 0  1")) (aCons (eC (.str "4: 0 0")) (aCons (eC (.str "4: 1 0")) (aCons (eC (.str "4: 4")) (aCons (eC (.str "4: 00")) (aCons (eC (.str "04: 0")) aNil))))))))))))))))
noncomputable def s10_law (K : PySem.W.Frag) (fr : Fr) : SD :=
    (sExt 6 (eArgs gLstD (aCons (eC (.str "17: 0")) (aCons (eC (.str "0: 0")) (aCons (eC (.str "4: 0, ")) (aCons (eC (.str "4: 0 1 2 3 4")) (aCons (eC (.str " 4: 0")) (aCons (eC (.str "4: 0 ")) (aCons (eC (.str "4: a")) (aCons (eC (.str "4: -1")) (aCons (eC (.str "4: 0: 1")) (aCons (eC (.str "4: 0\n")) aNil))))))))))))
noncomputable def b1_law (K : PySem.W.Frag) (fr : Fr) : SD :=
    (sIf (bNot (asB (eCallL fr (m__law_all K) (aCons (eArgs gLstD (aCons (eC (.fn fr lam_0 [7])) aNil)) (aCons (eC (.str "ParseError")) aNil))))) (sRet (eC (.bl false))) sNil)
noncomputable def s11_law (K : PySem.W.Frag) (fr : Fr) : SD :=
    (sFor (iSeqD (eVar 6)) (gSet 7) (b1_law K fr))
noncomputable def b2_law (K : PySem.W.Frag) (fr : Fr) : SD :=
    (sIf (bNot (asB (eCallL fr (m__law_all K) (aCons (eArgs gLstD (aCons (eC (.fn fr lam_1 [1, 7])) aNil)) (aCons (eC (.str "ParseError")) aNil))))) (sRet (eC (.bl false))) sNil)
noncomputable def s12_law (K : PySem.W.Frag) (fr : Fr) : SD :=
    (sFor (iSeqD (eArgs gTupD (aCons (eC .non) (aCons (eC (.int 5)) (aCons (op2 gAdd (eVar 4) (eC (.str "."))) (aCons (eSlS (eVar 4) (oPart (some (eC (.int 1)))) (oPart none)) (aCons (op2 gAdd (eC (.str "x")) (eSlS (eVar 4) (oPart (some (eC (.int 1)))) (oPart none))) (aCons (op2 gAdd (eSlS (eVar 4) (oPart none) (oPart (some (eNeg (eC (.int 1)))))) (eC (.str " "))) (aCons (eArgs gListS (aCons (eVar 4) aNil)) aNil))))))))) (gSet 7) (b2_law K fr))
noncomputable def s13_law (K : PySem.W.Frag) (fr : Fr) : SD :=
    (sRet (eC (.bl true)))
noncomputable def g_law (K : PySem.W.Frag) (fr : Fr) : SD :=
    (sSeq (s1_law K fr)
    (sSeq (s2_law K fr)
    (sSeq (s3_law K fr)
    (sSeq (s4_law K fr)
    (sSeq (s5_law K fr)
    (sSeq (s6_law K fr)
    (sSeq (s7_law K fr)
    (sSeq (s8_law K fr)
    (sSeq (s9_law K fr)
    (sSeq (s10_law K fr)
    (sFrz 6 (sSeq (s11_law K fr)
    (sSeq (s12_law K fr)
    (s13_law K fr))))))))))))))
noncomputable def m_law (K : PySem.W.Frag) : List D → R D := fnDL 10 (g_law K)
theorem sc_law : FnScope ["script", "scheme", "bits", "text", "sign", "wide", "bad", "value", "bit", "row"] ["script"] (defScope (topS 42)) := ⟨rfl, rfl, rfl, by decide +kernel, rfl, by decide +kernel, by decide +kernel⟩
theorem fk_law (T : Tc mg K base) {fd : FuncData} (F : FunD K "law" "law" (defArgs (topS 42)) (defBody (topS 42)) (defScope (topS 42)) [] [] (He.ga K "law") fd) : FnOk P w K mg base (L2.CX P w) 9 (He.ga K "law") fd ["script"] (spD K 1 (m_law K)) := by
  exact fn_okDL (k := 8) ("law", none) F sc_law rfl T.t_law T.q_law T.a_law fun X W h1 h2 h3 h4 h5 O M => by
    have C := O.ctx h1 h2 h3 h4 h5 sc_law.nd
    exact (dss_cons (yset C 1 rfl rfl (.inl (O.fn _)) (xcall C (ok__law_scheme T) (by decide) rfl (da_cons (xv C 0 rfl rfl) (da_cons de_int (da_cons de_int da_nil))) (aCons_len (aCons_len (aCons_len (aNil_len rfl))))))
    (dss_cons (yset C 2 rfl rfl (.inl (O.fn _)) (xcall C (ok__law_some T) (by decide) rfl (da_cons (xv C 0 rfl rfl) (da_cons de_int (da_cons (de_ix (xv C 1 rfl rfl) de_int) (da_cons de_int da_nil)))) (aCons_len (aCons_len (aCons_len (aCons_len (aNil_len rfl)))))))
    (dss_cons (yset C 3 rfl rfl (.inl (O.fn _)) (de_add (de_add (xstrI C T.n_str rfl (da_cons (de_ix (xv C 1 rfl rfl) de_int) da_nil)) de_str) (de_join de_str (de_lstO (xlc C [("row", 9)] [9] (dig_of (di_seq (de_ix (xv C 1 rfl rfl) de_int))) rfl (fun Y C' fnY => ⟨(gname C' 9 rfl rfl (.inr rfl)), dts_nil, (de_join de_str (de_lstO (xlc C' [("bit", 8)] [8] (dig_of (di_seq (xv C' 9 rfl rfl))) rfl (fun Y C'' fnY => ⟨(gname C'' 8 rfl rfl (.inr rfl)), dts_nil, (xstrI C'' T.n_str rfl (da_cons (xv C'' 8 rfl rfl) da_nil))⟩))))⟩))))))
    (dss_cons (yset C 4 rfl rfl (.inl (O.fn _)) (de_join de_str (de_lstO (xlc C [("bit", 8)] [8] (dig_of (irange1 C T.n_range rfl (da_cons (de_ix (xv C 1 rfl rfl) de_int) da_nil) (aCons_len (aNil_len rfl)))) rfl (fun Y C' fnY => ⟨(gname C' 8 rfl rfl (.inr rfl)), dts_nil, (de_ifExp (dt_in C'.hu (xv C' 8 rfl rfl) (xv C' 2 rfl rfl)) de_str de_str)⟩)))))
    (dss_cons (ds_if (PW.pt (dw_or (dt_ne C.hu (xcall C (ok_format_scheme T) (by decide) rfl (da_cons (xv C 1 rfl rfl) da_nil) (aCons_len (aNil_len rfl))) (xv C 3 rfl rfl)) (dw_or1 (dt_ne C.hu (xcall C (ok_parse_scheme T) (by decide) rfl (da_cons (xv C 3 rfl rfl) da_nil) (aCons_len (aNil_len rfl))) (xv C 1 rfl rfl))))) (dss_one (ds_ret de_bl)) dss_nil)
    (dss_cons (ds_if (PW.pt (dw_or (dt_ne C.hu (xcall C (ok_format_filter T) (by decide) rfl (da_cons (xv C 1 rfl rfl) (da_cons (xv C 2 rfl rfl) da_nil)) (aCons_len (aCons_len (aNil_len rfl)))) (xv C 4 rfl rfl)) (dw_or1 (dt_ne C.hu (xcall C (ok_parse_filter T) (by decide) rfl (da_cons (xv C 1 rfl rfl) (da_cons (xv C 4 rfl rfl) da_nil)) (aCons_len (aCons_len (aNil_len rfl)))) (xv C 2 rfl rfl))))) (dss_one (ds_ret de_bl)) dss_nil)
    (dss_cons (yset C 5 rfl rfl (.inl (O.fn _)) (de_tup (da_cons de_int (da_cons (de_tup (da_cons (de_tup (da_cons de_int (da_cons de_int da_nil))) (da_cons (de_tup (da_cons de_int (da_cons de_int (da_cons de_int (da_cons de_int da_nil))))) da_nil))) da_nil))))
    (dss_cons (ds_if (PW.pt (dw_or (dt_ne C.hu (xcall C (ok_format_scheme T) (by decide) rfl (da_cons (xv C 5 rfl rfl) da_nil) (aCons_len (aNil_len rfl))) de_str) (dw_or1 (dt_ne C.hu (xcall C (ok_parse_scheme T) (by decide) rfl (da_cons de_str da_nil) (aCons_len (aNil_len rfl))) (xv C 5 rfl rfl))))) (dss_one (ds_ret de_bl)) dss_nil)
    (dss_cons (yown C 6 rfl rfl (.inl (O.fn _)) (do_lst (da_cons de_non (da_cons de_int (da_cons de_str (da_cons de_str (da_cons de_str (da_cons de_str (da_cons de_str (da_cons de_str (da_cons de_str (da_cons de_str (da_cons de_str (da_cons de_str (da_cons de_str (da_cons de_str da_nil))))))))))))))))
    (dss_cons (yext C 6 rfl rfl (de_lst (da_cons de_str (da_cons de_str (da_cons de_str (da_cons de_str (da_cons de_str (da_cons de_str (da_cons de_str (da_cons de_str (da_cons de_str (da_cons de_str da_nil))))))))))))
    (dss_frz 6 (dss_cons (ds_for O.own C.calm (di_seq (xv C 6 rfl rfl)) (gname C 7 rfl rfl (.inl (O.fn _))) (dss_one (ds_if (dt_not (dt_val (xcallL C O.fn (ok__law_all T) (by decide) rfl (da_cons (de_lst (da_cons (xlam C lam_0 [7] M rfl rfl) da_nil)) (da_cons de_str da_nil)) (aCons_len (aCons_len (aNil_len rfl)))))) (dss_one (ds_ret de_bl)) dss_nil)))
    (dss_cons (ds_for O.own C.calm (di_seq (de_tup (da_cons de_non (da_cons de_int (da_cons (de_add (xv C 4 rfl rfl) de_str) (da_cons (de_sliceS (xv C 4 rfl rfl) (dpo_some de_int) dpo_none) (da_cons (de_add de_str (de_sliceS (xv C 4 rfl rfl) (dpo_some de_int) dpo_none)) (da_cons (de_add (de_sliceS (xv C 4 rfl rfl) dpo_none (dpo_some (de_neg de_int))) de_str) (da_cons (xlistS C T.n_list rfl (da_cons (xv C 4 rfl rfl) da_nil)) da_nil))))))))) (gname C 7 rfl rfl (.inl (O.fn _))) (dss_one (ds_if (dt_not (dt_val (xcallL C O.fn (ok__law_all T) (by decide) rfl (da_cons (de_lst (da_cons (xlam C lam_1 [1, 7] M rfl rfl) da_nil)) (da_cons de_str da_nil)) (aCons_len (aCons_len (aNil_len rfl)))))) (dss_one (ds_ret de_bl)) dss_nil)))
    (dss_one (ds_ret de_bl)))))))))))))))
theorem ok_law (T : Tc mg K base) : Fd P w K mg base 9 "law" 1 (m_law K) := by
  obtain ⟨fd, F⟩ := T.f_law
  exact fd_of F T.r_law (F.bindsN fun _ _ _ _ _ _ us hl => match us, hl with | [_], _ => rfl) (fk_law T F)

end
instance (priority := low) dummyTabs : DL.Tabs := ⟨[], fun _ => ""⟩
end LW

set_option Elab.async false
set_option linter.all false
set_option maxRecDepth 100000
set_option maxHeartbeats 2000000
/-! What _law_class, _law_result, _law_all answer. -/
namespace LW
open PySem L2 DL
variable {K : PySem.W.Frag} {mg : Str → Option Value}
theorem ok_error : PyData.strOk (Str.ofString "error") = true := by decide +kernel
theorem result_ok {l : Lam} {ds : List D} {d : D} (h : LT K l ds = .ok d) (hn : noCs ds = true) : m__law_result K [.clo l ds] = .ok d := by
  simp only [m__law_result, g__law_result, fnD_ev, startE, List.map_cons, List.map_nil, List.length_cons, List.length_nil, List.cons_append, List.nil_append, List.replicate, sTry, ev_ret, eLam, List.getElem?_cons_zero, hn, if_true, h]
theorem ok_ParseError : PyData.strOk (Str.ofString "ParseError") = true := by decide +kernel
theorem class_ParseError (T : Tb mg K) : m__law_class K (He.ga K "ParseError") = .ok (.str "ParseError") := by
  unfold m__law_class
  refine hotD_eq fun a => ?_
  have k_InvalidScheme := kit_of T.e_ParseError_InvalidScheme T.e_InvalidScheme_InvalidScheme
  have k_InvalidKeys := kit_of T.e_ParseError_InvalidKeys T.e_InvalidKeys_InvalidKeys
  have k_InvalidFilter := kit_of T.e_ParseError_InvalidFilter T.e_InvalidFilter_InvalidFilter
  have k_InvalidNumber := kit_of T.e_ParseError_InvalidNumber T.e_InvalidNumber_InvalidNumber
  have k_InvalidKey := kit_of T.e_ParseError_InvalidKey T.e_InvalidKey_InvalidKey
  have k_TooLarge := kit_of T.e_ParseError_TooLarge T.e_TooLarge_TooLarge
  have k_OddSize := kit_of T.e_ParseError_OddSize T.e_OddSize_OddSize
  have k_InvalidCounters := kit_of T.e_ParseError_InvalidCounters T.e_InvalidCounters_InvalidCounters
  have k_InvalidHistory := kit_of T.e_ParseError_InvalidHistory T.e_InvalidHistory_InvalidHistory
  have k_AlreadyThere := kit_of T.e_ParseError_AlreadyThere T.e_AlreadyThere_AlreadyThere
  have k_NotThere := kit_of T.e_ParseError_NotThere T.e_NotThere_NotThere
  have k_NothingToUndo := kit_of T.e_ParseError_NothingToUndo T.e_NothingToUndo_NothingToUndo
  have k_ParseError := kit_of T.e_ParseError_ParseError T.e_ParseError_ParseError
  have kv := T.v_ParseError
  simp only [g__law_class, fnD_ev, startE, List.map_cons, List.map_nil, List.length_cons, List.length_nil, List.cons_append, List.nil_append, List.replicate]
  simp [gIsE, kv, k_InvalidScheme, k_InvalidKeys, k_InvalidFilter, k_InvalidNumber, k_InvalidKey, k_TooLarge, k_OddSize, k_InvalidCounters, k_InvalidHistory, k_AlreadyThere, k_NotThere, k_NothingToUndo, k_ParseError, dok, doks, eqb, idxD, List.findIdx?_cons, List.filter, eCountB, asBls, List.count, List.countP, List.countP.go, atI, ixN]
theorem result_ParseError (T : Tb mg K) {l : Lam} {ds : List D} (h : LT K l ds = .exc (He.ga K "ParseError")) (hn : noCs ds = true) : m__law_result K [.clo l ds] = .ok (.tup [.str "error", .str "ParseError"]) := by
  simp only [m__law_result, g__law_result, fnD_ev, startE, List.map_cons, List.map_nil, List.length_cons, List.length_nil, List.cons_append, List.nil_append, List.replicate, sTry, ev_ret, eLam, List.getElem?_cons_zero, hn, if_true, h, T.e_ParseError_BloomError]
  rw [hIf, if_pos (by simp)]
  simp [eHot, class_ParseError T]
theorem all_ParseError (T : Tb mg K) (cs : List (Lam × List D)) (hl : cs.length ≤ 100000) (h : ∀ p ∈ cs, noCs p.2 = true ∧ LT K p.1 p.2 = .exc (He.ga K "ParseError")) : m__law_all K [.lst (cs.map fun p => .clo p.1 p.2), .str "ParseError"] = .ok (.bl true) := by
  simp only [m__law_all, g__law_all, fnD_ev, startE, List.map_cons, List.map_nil, List.length_cons, List.length_nil, List.cons_append, List.nil_append, List.replicate]
  simp [hl]
  rw [lc_map (f := fun p : Lam × List D => D.clo p.1 p.2) (fun _ => .bl true) cs]
  rotate_left
  · intro p hp
    have := h p hp
    refine ⟨_, rfl, rfl, ?_⟩
    simp [result_ParseError T this.2 this.1, dok, doks, eqb, eqbs, ok_error, ok_ParseError]
  simp
theorem callL_ParseError (T : Tb mg K) {fr : Fr} {f : DL.Env → R D} {ρ : DL.Env} {ds : List D} (cs : List (Lam × List D)) (hf : f ρ = .ok (.lst ds)) (hc : captL fr ρ ds = some (cs.map fun p => .clo p.1 p.2)) (hl : cs.length ≤ 100000) (h : ∀ p ∈ cs, noCs p.2 = true ∧ LT K p.1 p.2 = .exc (He.ga K "ParseError")) :
    eCallL fr (m__law_all K) (aCons f (aCons (eC (.str "ParseError")) aNil)) ρ = .ok (.bl true) := by
  unfold eCallL
  simp only [ev_cons, ev_nil, ev_c, hf, R.bind_ok, captA, capt1, hc, Option.map_some, capt, all_ParseError T cs hl h, noC, if_true]
end LW


set_option Elab.async false
set_option linter.all false
set_option maxRecDepth 100000
set_option maxHeartbeats 1000000
namespace LW
open PySem L2 DL
variable {K : PySem.W.Frag}
@[simp] theorem eqb_int (i j : Int) : eqb (.int i) (.int j) = decide (i = j) := by
  simp only [eqb]
  by_cases h : i = j <;> simp [h]
def isInt : D → Int → Int → Bool
  | .int i, a, b => decide (a ≤ i) && decide (i ≤ b)
  | _, _, _ => false
theorem is_int_eq {d : D} {a b : Int} (h : (tyName d).isSome = true) : m_is_int K [d, .int a, .int b] = .ok (.bl (isInt d a b)) := by
  cases d <;> simp [tyName] at h <;> simp [m_is_int, g_is_int, startE, isInt]
  · rename_i i
    by_cases h1 : a ≤ i <;> by_cases h2 : i ≤ b <;> simp [h1, h2]
def nexts : List Int → Bool
  | a :: b :: r => decide (a < b) && nexts (b :: r)
  | _ => true
theorem nexts_iff : ∀ l : List Int, nexts l = true ↔ l.Pairwise (· < ·)
  | [] => by simp [nexts]
  | [a] => by simp [nexts]
  | a :: b :: r => by
    have ih := nexts_iff (b :: r)
    rw [nexts, Bool.and_eq_true, ih, List.pairwise_cons (a := a), decide_eq_true_eq]
    constructor
    · rintro ⟨h1, h2⟩
      refine ⟨fun z hz => ?_, h2⟩
      rcases List.mem_cons.mp hz with rfl | hz
      · exact h1
      · have := (List.pairwise_cons.mp h2).1 z hz
        omega
    · rintro ⟨h1, h2⟩
      exact ⟨h1 b (by simp), h2⟩

/-- is_rising -/
def isRis : D → Int → Bool
  | .tup ds, m => (ds.all fun d => isInt d 0 m) && (match asInts ds with
    | some l => nexts l
    | none => false)
  | _, _ => false
theorem asInts_of {m : Int} : ∀ {ds : List D}, (ds.all fun d => isInt d 0 m) = true → ∃ l : List Int, ds = l.map D.int ∧ ∀ x ∈ l, 0 ≤ x ∧ x ≤ m
  | [], _ => ⟨[], rfl, by simp⟩
  | d :: r, h => by
    simp only [List.all_cons, Bool.and_eq_true] at h
    obtain ⟨l, e, hl⟩ := asInts_of h.2
    cases d <;> simp [isInt] at h
    rename_i i
    exact ⟨i :: l, by simp [e], by simpa using ⟨h.1, hl⟩⟩
theorem cut_tail (l : List D) : cutD l (some 1) none = l.drop 1 := by
  unfold cutD
  rw [show HT.sIx l.length 0 (some 1) = min 1 l.length from HT.sIx_nat l.length 0 1, HT.sIx_none]
  cases l with
  | nil => rfl
  | cons x r =>
    rw [show min 1 (x :: r).length = 1 by rw [List.length_cons]; omega]
    show (List.take ((x :: r).length - 1) r) = r
    rw [List.length_cons, Nat.add_sub_cancel]
    exact List.take_length
theorem zip_next : ∀ l : List Int, (List.zip l (l.drop 1)).all (fun p => decide (p.1 < p.2)) = nexts l
  | [] => rfl
  | [a] => rfl
  | a :: b :: r => by
    have := zip_next (b :: r)
    simp only [List.drop_succ_cons, List.drop_zero, List.zip_cons_cons, List.all_cons, nexts] at this ⊢
    rw [this]
theorem zipD_pairs (l m : List Int) : zipD (l.map D.int) (m.map D.int) = (List.zip l m).map fun p => .tup [.int p.1, .int p.2] := by
  unfold zipD
  rw [List.zipWith_map]
  simp [List.zip, List.map_zipWith]
theorem is_rising_eq {d : D} {m : Int} (h : (tyName d).isSome = true) (hs : ∀ ds, d = .tup ds → ds.length ≤ 100000 ∧ ∀ x ∈ ds, (tyName x).isSome = true) : m_is_rising K [d, .int m] = .ok (.bl (isRis d m)) := by
  cases d with
  | tup ds =>
    obtain ⟨h1, h2⟩ := hs ds rfl
    simp [m_is_rising, g_is_rising, startE, h1]
    rw [lc_mapD (fun d => .bl (isInt d 0 m)) ds]
    rotate_left
    · exact fun a ha => ⟨_, rfl, rfl, by simp [is_int_eq (h2 a ha)]⟩
    simp only [R.bind_ok, ev_lst, gAll_lst, asBls_f, Option.map_some, R.lift_some, List.all_map, Function.id_comp]
    cases ha : ds.all fun d => isInt d 0 m with
    | false => simp [isRis, ha]
    | true =>
      simp [isRis, ha]
      obtain ⟨l, rfl, hl⟩ := asInts_of ha
      have hz : (zipD (l.map D.int) (cutD (l.map D.int) (some 1) none)).length ≤ 100000 := by
        rw [cut_tail]
        simp [zipD] at h1 ⊢
        omega
      simp [hz]
      rw [cut_tail, ← List.map_drop, zipD_pairs, lc_map (fun p : Int × Int => .bl (decide (p.1 < p.2))) _]
      rotate_left
      · exact fun a ha => ⟨_, rfl, rfl, by simp⟩
      simp [← zip_next]
  | _ => first | (simp [tyName] at h; done) | simp [m_is_rising, g_is_rising, startE, isRis]
end LW


set_option Elab.async false
set_option linter.all false
set_option maxRecDepth 100000
set_option maxHeartbeats 1000000
namespace LW
open PySem L2 DL
variable {K : PySem.W.Frag}
theorem neEmpty (ns : List Int) : eqb (.scr ns) (.lst []) = decide (ns = []) := by
  cases ns <;> simp [eqb, scrEq]
theorem gMul_r {i j : Int} (h1 : -(2 ^ 64) < j) (h2 : j < 2 ^ 64) : gMul (.int i) (.int j) = some (.int (i * j)) := by
  rw [gMul_int, if_pos]
  simp only [Bool.or_eq_true, Bool.and_eq_true, decide_eq_true_eq]
  exact .inr ⟨h1, h2⟩
theorem gMul_l {i j : Int} (h1 : -(2 ^ 64) < i) (h2 : i < 2 ^ 64) : gMul (.int i) (.int j) = some (.int (i * j)) := by
  rw [gMul_int, if_pos]
  simp only [Bool.or_eq_true, Bool.and_eq_true, decide_eq_true_eq]
  exact .inl ⟨h1, h2⟩
theorem gMod_p {i j : Int} (h : 0 < j) : gMod (.int i) (.int j) = some (.int (i % j)) := by rw [gMod_int, if_pos (by simpa using h)]
theorem gFdiv_p {i j : Int} (h : 0 < j) (h2 : j < 2 ^ 64) : gFdivW (.int i) (.int j) = some (.int (i / j)) := by
  rw [gFdivW_int, if_pos]
  simp only [Bool.and_eq_true, decide_eq_true_eq]
  exact ⟨h, h2⟩
def fin1 (cell k : Int) : Int := (cell % 2147483563 * 69069 + 104723 * (k + 1)) % 2147483563
def fin2 (c : Int) : Int := (c * c + c / 3) % 2147483399
def fin3 (c many : Int) : Int := (c * c + c / 7) % 2147483647 / 11 % many
theorem drawn_tail {cell k many : Int} (hm : 0 < many) (a : Slot) (t : List Slot) : sSeq (sSet 3 (op2 gMod (op2 gAdd (op2 gMul (op2 gMod (eVar 3) (eC (.int 2147483563))) (eC (.int 69069))) (op2 gMul (eC (.int 104723)) (op2 gAdd (eVar 1) (eC (.int 1))))) (eC (.int 2147483563))))
    (sSeq (sSet 3 (op2 gMod (op2 gAdd (op2 gMul (eVar 3) (eVar 3)) (op2 gFdivW (eVar 3) (eC (.int 3)))) (eC (.int 2147483399))))
    (sRet (op2 gMod (op2 gFdivW (op2 gMod (op2 gAdd (op2 gMul (eVar 3) (eVar 3)) (op2 gFdivW (eVar 3) (eC (.int 7)))) (eC (.int 2147483647))) (eC (.int 11))) (eVar 2)))) (a :: .val (.int k) :: .val (.int many) :: .val (.int cell) :: t) = some (.rt (.int (fin3 (fin2 (fin1 cell k)) many))) := by
  have h1 : -(2 ^ 64) < fin1 cell k ∧ fin1 cell k < 2 ^ 64 := by unfold fin1; omega
  have h2 : -(2 ^ 64) < fin2 (fin1 cell k) ∧ fin2 (fin1 cell k) < 2 ^ 64 := by
    unfold fin2
    generalize fin1 cell k * fin1 cell k = z
    omega
  simp only [ev_seq, ev_set, ev_op2, ev_var, ev_c, List.getElem?_cons_succ, List.getElem?_cons_zero, R.bind_ok, gAdd_int, R.lift_some, List.set_cons_succ, List.set_cons_zero, ev_ret,
    gMod_p (show (0 : Int) < 2147483563 by decide), gMod_p (show (0 : Int) < 2147483399 by decide), gMod_p (show (0 : Int) < 2147483647 by decide), gMul_r (show -(2 ^ 64) < (69069 : Int) by decide) (show (69069 : Int) < 2 ^ 64 by decide), gMul_l (show -(2 ^ 64) < (104723 : Int) by decide) (show (104723 : Int) < 2 ^ 64 by decide)]
  rw [show (cell % 2147483563 * 69069 + 104723 * (k + 1)) % 2147483563 = fin1 cell k from rfl]
  simp only [List.getElem?_cons_succ, List.getElem?_cons_zero, R.bind_ok, R.lift_some, gMul_r h1.1 h1.2, gAdd_int, gFdiv_p (show (0 : Int) < 3 by decide) (by decide), gMod_p (show (0 : Int) < 2147483399 by decide)]
  rw [show (fin1 cell k * fin1 cell k + fin1 cell k / 3) % 2147483399 = fin2 (fin1 cell k) from rfl]
  simp only [List.set_cons_succ, List.set_cons_zero, List.getElem?_cons_succ, List.getElem?_cons_zero, R.bind_ok, R.lift_some, gMul_r h2.1 h2.2, gAdd_int, gFdiv_p (show (0 : Int) < 7 by decide) (by decide), gFdiv_p (show (0 : Int) < 11 by decide) (by decide), gMod_p (show (0 : Int) < 2147483647 by decide), gMod_p hm]
  rfl
theorem fin3_range {c many : Int} (hm : 0 < many) : 0 ≤ fin3 c many ∧ fin3 c many < many := ⟨Int.emod_nonneg _ (by omega), Int.emod_lt_of_pos _ hm⟩
end LW


set_option Elab.async false
set_option linter.all false
set_option maxRecDepth 100000
set_option maxHeartbeats 1000000
/-! schemes.py: what the functions compute. -/
namespace LW
open PySem L2 DL
variable {K : PySem.W.Frag}

/-- a scheme as data -/
def sD (n : Int) (rows : List (List Int)) : D := .tup [.int n, .tup (rows.map iT)]
def row (rows : List (List Int)) (k : Int) : List Int := rows.getD k.toNat []

/-- a valid scheme -/
structure VS (n : Int) (rows : List (List Int)) : Prop where
  n1 : 1 ≤ n
  n2 : n ≤ 16
  r1 : 1 ≤ rows.length
  r2 : rows.length ≤ 10
  ris : ∀ r ∈ rows, r.Pairwise (· < ·)
  rng : ∀ r ∈ rows, ∀ x ∈ r, 0 ≤ x ∧ x ≤ n - 1
  l1 : ∀ r ∈ rows, 1 ≤ r.length
  l2 : ∀ r ∈ rows, r.length ≤ 4
@[simp] theorem ix_s0 (n : Int) (rows : List (List Int)) : gIx (sD n rows) (.int 0) = some (.int n) := by simp [sD]
@[simp] theorem ix_s1 (n : Int) (rows : List (List Int)) : gIx (sD n rows) (.int 1) = some (.tup (rows.map iT)) := by simp [sD]
theorem row_at {rows : List (List Int)} {k : Int} (h0 : 0 ≤ k) (h : k < rows.length) : rows[k.toNat]? = some (row rows k) := by
  have hl : k.toNat < rows.length := by omega
  simp [row, List.getD, List.getElem?_eq_getElem hl]
theorem row_mem {rows : List (List Int)} {k : Int} (h0 : 0 ≤ k) (h : k < rows.length) : row rows k ∈ rows := List.mem_of_getElem? (row_at h0 h)
theorem ix_row {rows : List (List Int)} {k : Int} (h0 : 0 ≤ k) (h : k < rows.length) : atI (rows.map iT) k = some (iT (row rows k)) := by
  refine atI_of h0 ?_
  rw [List.getElem?_map, row_at h0 h]
  rfl
theorem gIx_row {rows : List (List Int)} {k : Int} (h0 : 0 ≤ k) (h : k < rows.length) : gIx (.tup (rows.map iT)) (.int k) = some (iT (row rows k)) := by rw [gIx_tup, ix_row h0 h]
theorem isRis_iT {l : List Int} {m : Int} : isRis (iT l) m = (l.all (fun x => decide (0 ≤ x) && decide (x ≤ m)) && nexts l) := by
  simp only [iT, isRis, asInts_map, List.all_map]
  rfl
theorem isRis_ok {l : List Int} {m : Int} (h1 : l.Pairwise (· < ·)) (h2 : ∀ x ∈ l, 0 ≤ x ∧ x ≤ m) : isRis (iT l) m = true := by
  rw [isRis_iT, (nexts_iff l).mpr h1, Bool.and_true, List.all_eq_true]
  intro x hx
  simp [h2 x hx]
theorem ty_ints {l : List Int} {x : D} (h : x ∈ l.map D.int) : (tyName x).isSome = true := by
  obtain ⟨i, _, rfl⟩ := List.mem_map.mp h
  rfl
theorem is_rising_iT {l : List Int} {m : Int} (hl : l.length ≤ 100000) : m_is_rising K [iT l, .int m] = .ok (.bl (isRis (iT l) m)) :=
  is_rising_eq rfl fun ds e => by
    cases e
    exact ⟨by simpa using hl, fun x hx => ty_ints hx⟩
@[simp] theorem is_int_int {i a b : Int} : m_is_int K [.int i, .int a, .int b] = .ok (.bl (decide (a ≤ i) && decide (i ≤ b))) := is_int_eq rfl
theorem is_scheme_ok {n : Int} {rows : List (List Int)} (v : VS n rows) : m_is_scheme K [sD n rows] = .ok (.bl true) := by
  have h1 := v.n1
  have h2 := v.n2
  have h3 : (1 : Int) ≤ (rows.length : Nat) := by have := v.r1; omega
  have h4 : ((rows.length : Nat) : Int) ≤ 10 := by have := v.r2; omega
  have h5 : rows.length ≤ 100000 := by have := v.r2; omega
  simp [m_is_scheme, g_is_scheme, startE, sD, dok, h1, h2, h3, h4, h5]
  rw [lc_map (fun _ => .bl true) rows]
  rotate_left
  · intro r hr
    refine ⟨_, rfl, rfl, ?_⟩
    have q1 := v.l1 r hr
    have q2 := v.l2 r hr
    have e1 : (1 : Int) ≤ (r.length : Nat) := by omega
    have e2 : ((r.length : Nat) : Int) ≤ 4 := by omega
    simp [is_rising_iT (show r.length ≤ 100000 by omega), isRis_ok (v.ris r hr) (v.rng r hr), e1, e2]
  simp
theorem check_scheme_of {d : D} {b : Bool} (h : m_is_scheme K [d] = .ok (.bl b)) : m_check_scheme K [d] = if b = true then .ok .non else .exc (He.ga K "InvalidScheme") := by
  simp [m_check_scheme, g_check_scheme, startE, h]
  cases b <;> rfl
theorem check_scheme_ok {n : Int} {rows : List (List Int)} (v : VS n rows) : m_check_scheme K [sD n rows] = .ok .non := check_scheme_of (is_scheme_ok v)

/-- values that may be asked -/
def Ask (d : D) : Prop := (tyName d).isSome = true ∧ ∀ ds, d = .tup ds → ds.length ≤ 100000 ∧ ∀ x ∈ ds, (tyName x).isSome = true
theorem ask_iT {l : List Int} (h : l.length ≤ 100000) : Ask (iT l) := ⟨rfl, fun ds e => by
  cases e
  exact ⟨by simpa using h, fun x hx => ty_ints hx⟩⟩
theorem check_filter_eq {n : Int} {rows : List (List Int)} {d : D} (a : Ask d) : m_check_filter K [sD n rows, d] = if isRis d (n - 1) = true then .ok .non else .exc (He.ga K "InvalidFilter") := by
  simp [m_check_filter, g_check_filter, startE, is_rising_eq a.1 a.2]
  cases isRis d (n - 1) <;> rfl
/-! ### the bits of keys -/
def bitsOf (rows : List (List Int)) (keys : List Int) : List Int := srtU (keys.flatMap (row rows))
theorem mem_bitsOf {rows : List (List Int)} {keys : List Int} {x : Int} : x ∈ bitsOf rows keys ↔ ∃ k ∈ keys, x ∈ row rows k := by
  rw [bitsOf, srtU_mem, List.mem_flatMap]
theorem bitsOf_rise (rows : List (List Int)) (keys : List Int) : (bitsOf rows keys).Pairwise (· < ·) := srtU_srt _
theorem putD_nodup {ks : List Int} {vs : List D} {k : Int} {v : D} (h : ks.Nodup) : (putD ks vs k v).1.Nodup := by
  unfold putD
  split
  · exact h
  · rename_i c
    have : k ∉ ks := fun hk => c (List.any_eq_true.mpr ⟨k, hk, by simp⟩)
    rw [List.nodup_append]
    exact ⟨h, by simp, fun a ha b hb => by simp at hb; subst hb; exact fun e => this (e ▸ ha)⟩
theorem putD_mem {ks : List Int} {vs : List D} {k x : Int} {v : D} : x ∈ (putD ks vs k v).1 ↔ x ∈ ks ∨ x = k := by
  unfold putD
  split
  · rename_i c
    obtain ⟨a, ha, e⟩ := List.any_eq_true.mp c
    simp at e
    subst e
    constructor
    · exact .inl
    · rintro (h | rfl)
      · exact h
      · exact ha
  · simp
theorem putD_len {ks : List Int} {vs : List D} {k : Int} {v : D} : (putD ks vs k v).1.length ≤ ks.length + 1 := by
  unfold putD
  split <;> simp

/-- {x: True for x in items} put upon ks -/
theorem dIn_bits {ρ : DL.Env} {g : D → DL.Env → Option DL.Env} {ek ev : DL.Env → R D} (he : ∀ x : Int, ∃ ρ1, g (.int x) ρ = some ρ1 ∧ ek ρ1 = .ok (.int x) ∧ ev ρ1 = .ok (.bl true)) : ∀ (items ks : List Int) (vs : List D), ks.Nodup → ks.length + items.length < 100000 →
    ∃ ks' vs', dIn g ek ev ρ (items.map D.int) ks vs = .ok (ks', vs') ∧ ks'.Nodup ∧ (∀ x, x ∈ ks' ↔ x ∈ ks ∨ x ∈ items) ∧ ks'.length ≤ ks.length + items.length
  | [], ks, vs, h, _ => ⟨ks, vs, rfl, h, by simp, by simp⟩
  | a :: r, ks, vs, h, hl => by
    obtain ⟨ρ1, e1, e2, e3⟩ := he a
    simp only [List.length_cons] at hl
    have hp := putD_len (ks := ks) (vs := vs) (k := a) (v := .bl true)
    obtain ⟨ks', vs', e, n', m', l'⟩ := dIn_bits he r _ (putD ks vs a (.bl true)).2 (putD_nodup (vs := vs) (k := a) (v := .bl true) h) (by omega)
    refine ⟨ks', vs', ?_, n', fun x => ?_, by simp only [List.length_cons]; omega⟩
    · rw [List.map_cons]
      unfold dIn
      simp only [e1, e2, e3]
      rw [if_pos (by omega), e]
    · rw [m', putD_mem, List.mem_cons]
      constructor
      · rintro ((h | h) | h) <;> simp [h]
      · rintro (h | h | h) <;> simp [h]
theorem dOut_bits {ρ : DL.Env} {g g1 : D → DL.Env → Option DL.Env} {f1 : DL.Env → R (List D)} {ek ev : DL.Env → R D} {vs1 : List Nat} {rows : List (List Int)} : ∀ (keys ks : List Int) (vs : List D), (∀ k ∈ keys, ∃ ρ1, g (.int k) ρ = some ρ1 ∧ f1 ρ1 = .ok ((row rows k).map D.int) ∧ ∀ x : Int, ∃ ρ2, g1 (.int x) (wipeE ρ1 vs1) = some ρ2 ∧ ek ρ2 = .ok (.int x) ∧ ev ρ2 = .ok (.bl true)) →
    ks.Nodup → ks.length + (keys.flatMap (row rows)).length < 100000 →
    ∃ ks' vs', dOut g f1 g1 ek ev vs1 ρ (keys.map D.int) ks vs = .ok (ks', vs') ∧ ks'.Nodup ∧ (∀ x, x ∈ ks' ↔ x ∈ ks ∨ x ∈ keys.flatMap (row rows)) ∧ ks'.length ≤ ks.length + (keys.flatMap (row rows)).length
  | [], ks, vs, _, h, _ => ⟨ks, vs, rfl, h, by simp, by simp⟩
  | k :: r, ks, vs, he, h, hl => by
    obtain ⟨ρ1, e1, e2, e3⟩ := he k (by simp)
    simp only [List.flatMap_cons, List.length_append] at hl
    obtain ⟨ks1, vs1', d1, n1, m1, l1⟩ := dIn_bits e3 (row rows k) ks vs h (by omega)
    obtain ⟨ks', vs', e, n', m', l'⟩ := dOut_bits r ks1 vs1' (fun a ha => he a (by simp [ha])) n1 (by omega)
    refine ⟨ks', vs', ?_, n', fun x => ?_, by simp only [List.flatMap_cons, List.length_append]; omega⟩
    · rw [List.map_cons]
      unfold dOut
      simp only [e1, e2, d1, e]
    · rw [m', m1, List.flatMap_cons, List.mem_append, or_assoc]
theorem srtI_rise {ks : List Int} (n : ks.Nodup) : (srtI ks).Pairwise (· < ·) := by
  have h1 := srtI_srt ks
  have h2 : (srtI ks).Nodup := (srtI_perm ks).nodup_iff.mpr n
  exact (h1.and h2).imp fun ⟨a, b⟩ => Int.lt_iff_le_and_ne.mpr ⟨a, b⟩
theorem srt_keys {ks l : List Int} (n : ks.Nodup) (h : ∀ x, x ∈ ks ↔ x ∈ l) : srtI ks = srtU l := by
  refine rise_uniq (srtI_rise n) (srtU_srt l) fun z => ?_
  rw [(srtI_perm ks).mem_iff, h z, srtU_mem]
theorem rise_len : ∀ {l : List Int} {a b : Int}, l.Pairwise (· < ·) → (∀ x ∈ l, a ≤ x ∧ x < b) → l.length ≤ (b - a).toNat
  | [], _, _, _, _ => by simp
  | x :: r, a, b, h, hr => by
    rw [List.pairwise_cons] at h
    have h1 := hr x (by simp)
    have ih := rise_len (a := x + 1) (b := b) h.2 fun y hy => ⟨by have := h.1 y hy; omega, (hr y (by simp [hy])).2⟩
    simp only [List.length_cons]
    omega
theorem nodup_len {l : List Int} {n : Nat} (h : l.Nodup) (hr : ∀ x ∈ l, 0 ≤ x ∧ x < n) : l.length ≤ n := by
  have := rise_len (a := 0) (b := n) (srtI_rise h) fun x hx => hr x ((srtI_perm l).mem_iff.mp hx)
  rw [(srtI_perm l).length_eq] at this
  omega

/-- keys of the scheme -/
def KeyOk (rows : List (List Int)) (keys : List Int) : Prop := ∀ k ∈ keys, 0 ≤ k ∧ k < rows.length
theorem flat_le {rows : List (List Int)} (h : ∀ r ∈ rows, r.length ≤ 4) : ∀ {keys : List Int}, KeyOk rows keys → (keys.flatMap (row rows)).length ≤ 4 * keys.length
  | [], _ => by simp
  | k :: r, hk => by
    have ih := flat_le h (keys := r) fun z hz => hk z (by simp [hz])
    have := h _ (row_mem (hk k (by simp)).1 (hk k (by simp)).2)
    simp only [List.flatMap_cons, List.length_append, List.length_cons]
    omega
/-! ### reports -/
def repd (rows : List (List Int)) (bits : List Int) : List Int := (rg 0 rows.length).filter fun k => (row rows k).all fun x => decide (x ∈ bits)
theorem mem_repd {rows : List (List Int)} {bits : List Int} {k : Int} : k ∈ repd rows bits ↔ (0 ≤ k ∧ k < rows.length) ∧ ∀ x ∈ row rows k, x ∈ bits := by
  simp [repd, mem_rg]
theorem repd_rise (rows : List (List Int)) (bits : List Int) : (repd rows bits).Pairwise (· < ·) := (rg_rise 0 _).filter _
theorem repd_ok (rows : List (List Int)) (bits : List Int) : KeyOk rows (repd rows bits) := fun k h => (mem_repd.mp h).1
end LW


set_option Elab.async false
set_option linter.all false
set_option maxRecDepth 100000
set_option maxHeartbeats 1000000
/-! The law's own helpers: drawn schemes, keys, filters. -/
namespace LW
open PySem L2 DL
variable {K : PySem.W.Frag}
theorem for_ex {g : D → DL.Env → Option DL.Env} {b : SD} {α : Type} (f : α → D) (n : Nat) (Pr : Nat → DL.Env → Prop) : ∀ (items : List α) (i : Nat) (ρ : DL.Env), i + items.length ≤ n → Pr i ρ →
    (∀ i ρ a, i < n → a ∈ items → Pr i ρ → ∃ ρ1 ρ2, g (f a) ρ = some ρ1 ∧ b ρ1 = some (.nx ρ2) ∧ Pr (i + 1) ρ2) → ∃ ρ', forLoop g b (items.map f) ρ = some (.nx ρ') ∧ Pr (i + items.length) ρ'
  | [], i, ρ, _, p, _ => ⟨ρ, rfl, p⟩
  | a :: r, i, ρ, hn, p, h => by
    simp only [List.length_cons] at hn
    obtain ⟨ρ1, ρ2, h1, h2, p2⟩ := h i ρ a (by omega) (by simp) p
    obtain ⟨ρ', e, p'⟩ := for_ex f n Pr r (i + 1) ρ2 (by omega) p2 fun i ρ c hi hc => h i ρ c hi (by simp [hc])
    refine ⟨ρ', ?_, ?_⟩
    · rw [List.map_cons]
      unfold forLoop
      simp only [h1, h2, e]
    · rw [List.length_cons, show i + (r.length + 1) = i + 1 + r.length by omega]
      exact p'


/-- a drawn scheme: sizes -/
structure DS2 (n : Int) (rows : List (List Int)) (most : Int) : Prop where
  n1 : 2 ≤ n
  n2 : n ≤ 7
  r1 : 1 ≤ rows.length
  r2 : (rows.length : Int) ≤ most
  ris : ∀ r ∈ rows, r.Pairwise (· < ·)
  rng : ∀ r ∈ rows, ∀ x ∈ r, 0 ≤ x ∧ x ≤ n - 1
  l1 : ∀ r ∈ rows, 1 ≤ r.length
  l2 : ∀ r ∈ rows, r.length ≤ 3
theorem DS2.vs {n : Int} {rows : List (List Int)} {most : Int} (d : DS2 n rows most) (h : most ≤ 10) : VS n rows :=
  ⟨by have := d.n1; omega, by have := d.n2; omega, d.r1, by have := d.r2; omega, d.ris, d.rng, d.l1, fun r hr => by have := d.l2 r hr; omega⟩
theorem insU_len (x : Int) : ∀ l : List Int, 1 ≤ (insU x l).length ∧ (insU x l).length ≤ l.length + 1
  | [] => by simp [insU]
  | y :: r => by
    have := insU_len x r
    unfold insU
    split
    · simp
    · split <;> simp
      omega
theorem srtU_len : ∀ l : List Int, (srtU l).length ≤ l.length
  | [] => by simp [srtU]
  | x :: r => by
    have := srtU_len r
    have := (insU_len x (srtU r)).2
    simp only [srtU, List.length_cons]
    omega
theorem srtU_pos {l : List Int} (h : 1 ≤ l.length) : 1 ≤ (srtU l).length := by
  cases l with
  | nil => simp at h
  | cons x r => exact (insU_len x _).1
/-! ### keys and filters -/


/-- _law_reported -/
theorem enum_rows (rows : List (List Int)) : enumD (rows.map iT) = (rg 0 rows.length).map fun k => .tup [.int k, iT (row rows k)] := by
  apply List.ext_getElem?
  intro i
  unfold enumD rg
  by_cases h : i < rows.length
  · simp [List.getElem?_eq_getElem h, row, List.getD, h]
  · simp [h, List.getElem?_eq_none (show rows.length ≤ i by omega)]
theorem bits_rng {n : Int} {rows : List (List Int)} {keys : List Int} (v : VS n rows) (ok : KeyOk rows keys) : ∀ x ∈ bitsOf rows keys, 0 ≤ x ∧ x ≤ n - 1 := fun x hx => by
  obtain ⟨k, h1, h2⟩ := mem_bitsOf.mp hx
  exact v.rng _ (row_mem (ok k h1).1 (ok k h1).2) x h2
theorem key_len {rows : List (List Int)} {keys : List Int} (h : keys.Pairwise (· < ·)) (ok : KeyOk rows keys) : keys.length ≤ rows.length := by
  have := rise_len (a := 0) (b := rows.length) h ok
  omega
end LW


set_option Elab.async false
set_option linter.all false
set_option maxRecDepth 100000
set_option maxHeartbeats 1000000
/-! Exceptions and tables of defs. -/
namespace LW
open PySem L2 DL
theorem fun_ne {K : PySem.W.Frag} {x y qx qy : Str} {p q : Arguments} {b c : List Stmt} {s t : Scope} {d e : List V} {k l : List (Str × V)} {f g : Addr} (F : ∃ fd, FunD K x qx p b s d k f fd) (G : ∃ fd, FunD K y qy q c t e l g fd) (h : (x == y) = false) : f ≠ g := by
  rintro rfl
  obtain ⟨fd, F⟩ := F
  obtain ⟨gd, G⟩ := G
  obtain ⟨oc, od, dV, kV, doc, pm, an, cdv, ct, osl, rfl, l1, _⟩ := F.ex
  obtain ⟨oc', od', dV', kV', doc', pm', an', cdv', ct', osl', rfl, l2, _⟩ := G.ex
  rw [l1] at l2
  have l3 := Option.some.inj l2
  have l4 := congrArg Obj.data l3
  have l5 := Data.func.inj l4
  have l6 : x = y := congrArg FuncData.name l5
  subst l6
  simp at h
theorem try_exc {b : SD} {i : Nat} {m : Addr → Option Bool} {h : Addr → Addr → SD} {ρ ρ' : DL.Env} {c : Addr} {d : D} (hb : b ρ = some (.xc c ρ')) (hm : m c = some true) (hh : h c 0 (ρ'.set i (.val (.ref 0))) = some (.rt d)) : sTry b i m h ρ = some (.rt d) := by
  simp [sTry, hb, hm, hh]
theorem try_ok {b : SD} {i : Nat} {m : Addr → Option Bool} {h : Addr → Addr → SD} {ρ ρ' : DL.Env} (hb : b ρ = some (.nx ρ')) : sTry b i m h ρ = some (.nx ρ') := by
  simp [sTry, hb]
theorem tab_hd {a : Addr} {n : Nat} {f : List D → R D} {r : List (Addr × Nat × (List D → R D))} : tabD ((a, n, f) :: r) a = some (n, f) := by simp [tabD]
theorem tab_tl {a b : Addr} {n : Nat} {f : List D → R D} {r : List (Addr × Nat × (List D → R D))} (h : b ≠ a) : tabD ((a, n, f) :: r) b = tabD r b := by simp [tabD, h]
end LW


set_option Elab.async false
set_option linter.all false
set_option maxRecDepth 100000
set_option maxHeartbeats 1000000
/-! All sets of keys, sorted. -/
namespace LW
open PySem L2 DL
variable {K : PySem.W.Frag}

/-- all sets of these keys, as they are made -/
def pwStep (acc : List (List Int)) (k : Int) : List (List Int) := acc ++ acc.map (· ++ [k])
def pw (keys : List Int) : List (List Int) := keys.foldl pwStep [[]]
theorem pw_snoc (keys : List Int) (k : Int) : pw (keys ++ [k]) = pw keys ++ (pw keys).map (· ++ [k]) := by
  simp [pw, pwStep]
theorem fold_len : ∀ (keys : List Int) (acc : List (List Int)), (keys.foldl pwStep acc).length = 2 ^ keys.length * acc.length
  | [], acc => by simp
  | k :: r, acc => by
    rw [List.foldl_cons, fold_len r]
    simp only [pwStep, List.length_append, List.length_map, List.length_cons, Nat.pow_succ]
    rw [← Nat.two_mul, Nat.mul_assoc]
theorem pw_len (keys : List Int) : (pw keys).length = 2 ^ keys.length := by simp [pw, fold_len]
theorem fold_mem : ∀ (keys : List Int) (acc : List (List Int)) (s : List Int), s ∈ keys.foldl pwStep acc ↔ ∃ a ∈ acc, ∃ t, t.Sublist keys ∧ s = a ++ t
  | [], acc, s => by
    constructor
    · intro h
      exact ⟨s, h, [], List.Sublist.refl _, by simp⟩
    · rintro ⟨a, ha, t, ht, rfl⟩
      rw [List.sublist_nil.mp ht, List.append_nil]
      exact ha
  | k :: r, acc, s => by
    rw [List.foldl_cons, fold_mem r]
    constructor
    · rintro ⟨a, ha, t, ht, rfl⟩
      rcases List.mem_append.mp ha with ha | ha
      · exact ⟨a, ha, t, ht.cons k, rfl⟩
      · obtain ⟨b, hb, rfl⟩ := List.mem_map.mp ha
        exact ⟨b, hb, k :: t, ht.cons_cons k, by simp⟩
    · rintro ⟨a, ha, t, ht, rfl⟩
      cases ht with
      | cons _ h => exact ⟨a, List.mem_append_left _ ha, t, h, rfl⟩
      | cons_cons _ h => exact ⟨a ++ [k], List.mem_append_right _ (List.mem_map.mpr ⟨a, ha, rfl⟩), _, h, by simp⟩
theorem mem_pw {keys s : List Int} : s ∈ pw keys ↔ s.Sublist keys := by
  rw [pw, fold_mem]
  simp

/-- not behind: by the items, from the left -/
def leL (a b : List Int) : Bool := leD (iT a) (iT b)
def sbs (keys : List Int) : List (List Int) := (pw keys).mergeSort leL
theorem sbs_perm (keys : List Int) : (sbs keys).Perm (pw keys) := List.mergeSort_perm _ _
theorem mem_sbs {keys s : List Int} : s ∈ sbs keys ↔ s.Sublist keys := by rw [(sbs_perm keys).mem_iff, mem_pw]
theorem sbs_len (keys : List Int) : (sbs keys).length = 2 ^ keys.length := by rw [(sbs_perm keys).length_eq, pw_len]
theorem toPs_ints (l : List Int) : toPs (l.map D.int) = l.map PyData.int := by
  rw [toPs_map, List.map_map]
  rfl
theorem alike_ints : ∀ a b : List Int, PySem.W.alikeAll (a.map PyData.int) (b.map PyData.int) = true
  | [], _ => by simp [PySem.W.alikeAll]
  | _ :: _, [] => by simp [PySem.W.alikeAll]
  | x :: r, y :: t => by
    simp only [List.map_cons, PySem.W.alikeAll, alike_ints r t, Bool.and_true]
    rfl
theorem alike_iT (a b : List Int) : PySem.W.alike (toP (iT a)) (toP (iT b)) = true := by
  show PySem.W.alikeAll (toPs (a.map D.int)) (toPs (b.map D.int)) = true
  rw [toPs_ints, toPs_ints]
  exact alike_ints a b
theorem doks_iTs (n : Nat) (l : List (List Int)) : doks (n + 1) (l.map iT) = true := by
  rw [doks_all, List.all_map, List.all_eq_true]
  intro s _
  exact dok_iT n s
theorem sortable_iT (l : List (List Int)) : sortable (l.map iT) = true := by
  unfold sortable
  rw [doks_iTs 6 l, Bool.true_and, Bool.and_eq_true]
  refine ⟨?_, ?_⟩
  · rw [List.all_map, List.all_eq_true]
    intro s _
    rfl
  · rw [List.all_map, List.all_eq_true]
    intro s _
    show (l.map iT).all _ = true
    rw [List.all_map, List.all_eq_true]
    intro t _
    exact alike_iT s t
theorem asInts_iT {l : List (List Int)} (h : l ≠ []) : asInts (l.map iT) = none := by
  cases l with
  | nil => exact absurd rfl h
  | cons a r => rfl
theorem gSorted_iT {l : List (List Int)} (h : l ≠ []) : gSorted [.lst (l.map iT)] = some ((l.mergeSort leL).map iT) := by
  unfold gSorted
  simp only [asInts_iT h, sortable_iT, if_true]
  rw [List.map_mergeSort (r := leL) (s := leD) (f := iT) fun a _ b _ => rfl]
theorem pw_ne (keys : List Int) : pw keys ≠ [] := fun h => by
  have := pw_len keys
  rw [h] at this
  have h2 : 0 < 2 ^ keys.length := Nat.two_pow_pos _
  simp at this
  omega

/-- the loop that makes all sets, in subsets and _law_sets -/
theorem pow_loop {b : SD} {s0 : Slot} (hb : ∀ (acc : List (List Int)) (k : Int) (x3 : Slot), acc.length ≤ 5000 → (∀ s ∈ acc, s.length ≤ 1000) → b [s0, .val (.lst (acc.map iT)), .val (.int k), x3] = some (.nx [s0, .val (.lst ((pwStep acc k).map iT)), .val (.int k), x3])) :
    ∀ (keys : List Int) (acc : List (List Int)) (x2 x3 : Slot), 2 ^ keys.length * acc.length ≤ 5000 → (∀ s ∈ acc, s.length + keys.length ≤ 1000) → ∃ x2', forLoop (gSet 2) b (keys.map D.int) [s0, .val (.lst (acc.map iT)), x2, x3] = some (.nx [s0, .val (.lst ((keys.foldl pwStep acc).map iT)), x2', x3])
  | [], acc, x2, x3, _, _ => ⟨x2, rfl⟩
  | k :: r, acc, x2, x3, h, hs => by
    have e1 : (pwStep acc k).length = 2 * acc.length := by simp [pwStep, Nat.two_mul]
    have h1 : 2 ^ r.length * (pwStep acc k).length ≤ 5000 := by
      rw [e1, ← Nat.mul_assoc, ← Nat.pow_succ]
      exact h
    have h2 : acc.length ≤ 5000 := by
      refine Nat.le_trans ?_ h
      exact Nat.le_mul_of_pos_left _ (Nat.two_pow_pos _)
    simp only [List.length_cons] at hs
    obtain ⟨x2', e⟩ := pow_loop hb r (pwStep acc k) (.val (.int k)) x3 h1 fun s hm => by
      rcases List.mem_append.mp hm with hm | hm
      · have := hs s hm
        omega
      · obtain ⟨t, ht, rfl⟩ := List.mem_map.mp hm
        have := hs t ht
        simp only [List.length_append, List.length_cons, List.length_nil]
        omega
    refine ⟨x2', ?_⟩
    rw [List.map_cons]
    unfold forLoop
    simp only [ev_gSet, List.set_cons_succ, List.set_cons_zero, hb acc k x3 h2 (fun s hm => by have := hs s hm; omega), e, List.foldl_cons]
theorem step_lc {acc : List (List Int)} {k : Int} {ρ : DL.Env} (h3 : ρ[2]? = some (.val (.int k))) (hl : 3 < ρ.length) (h : ∀ s ∈ acc, s.length ≤ 1000) : lcLoop (gSet 3) bYes (op2 gAdd (eVar 3) (eArgs gTupD (aCons (eVar 2) aNil))) ρ (acc.map iT) = .ok ((acc.map (· ++ [k])).map iT) := by
  rw [lc_map (fun s => iT (s ++ [k]))]
  rotate_left
  · intro s hs
    refine ⟨_, rfl, rfl, ?_⟩
    have e2 : (ρ.set 3 (.val (iT s)))[2]? = some (.val (.int k)) := by rw [List.getElem?_set_ne (by decide), h3]
    have e3 : (ρ.set 3 (.val (iT s)))[3]? = some (.val (iT s)) := by rw [List.getElem?_set_self hl]
    have := h s hs
    have h5 : s.length + 1 ≤ 100000 := by omega
    simp only [ev_op2, ev_args, ev_cons, ev_nil, ev_var, e2, e3, R.bind_ok, gTupD_ev, List.length_cons, List.length_nil]
    simp [iT, h5]
  rw [List.map_map]
  rfl
theorem step_ev {acc : List (List Int)} {k : Int} {s0 x3 : Slot} (hl : acc.length ≤ 5000) (h : ∀ s ∈ acc, s.length ≤ 1000) : sSet 1 (op2 gAdd (eVar 1) (eLst (oLc (iSeqD (eVar 1)) (gSet 3) bYes (op2 gAdd (eVar 3) (eArgs gTupD (aCons (eVar 2) aNil))) [3]))) [s0, .val (.lst (acc.map iT)), .val (.int k), x3] = some (.nx [s0, .val (.lst ((pwStep acc k).map iT)), .val (.int k), x3]) := by
  have h1 : acc.length ≤ 100000 := by omega
  have h2 : acc.length + acc.length ≤ 100000 := by omega
  simp only [ev_set, ev_op2, ev_var, List.getElem?_cons_succ, List.getElem?_cons_zero, R.bind_ok, ev_lst, ev_oLc, ev_iSeq, items_lst, List.length_map, h1, if_true, ev_wipe, ev_wipe0]
  rw [step_lc (k := k) (by simp) (by simp) h]
  simp [h2, pwStep]
end LW


set_option Elab.async false
set_option linter.all false
set_option maxRecDepth 100000
set_option maxHeartbeats 1000000
/-! The order of sets of keys. -/
namespace LW
open PySem L2 DL
variable {K : PySem.W.Frag}
def lexI : List Int → List Int → Bool
  | [], [] => false
  | [], _ :: _ => true
  | _ :: _, [] => false
  | x :: r, y :: t => decide (x < y) || (decide (x = y) && lexI r t)
theorem toks_lex : ∀ a b : List Int, PyProof.Rows.lexLt PyProof.Rows.itemOrd (PySem.W.keyToksAll (a.map PyData.int)) (PySem.W.keyToksAll (b.map PyData.int)) = lexI a b
  | [], [] => by simp [lexI, PySem.W.keyToksAll, PyProof.Rows.lex_irrefl]
  | [], y :: t => by
    simp only [List.map_cons, List.map_nil, PySem.W.keyToksAll, lexI]
    rw [PyProof.Rows.lex_cons]
    rfl
  | x :: r, [] => by
    simp only [List.map_cons, List.map_nil, PySem.W.keyToksAll, lexI]
    rw [PyProof.Rows.lex_cons]
    rfl
  | x :: r, y :: t => by
    have ih := toks_lex r t
    simp only [List.map_cons, PySem.W.keyToksAll, PySem.W.keyToks, lexI, List.cons_append, List.nil_append]
    rw [PyProof.Rows.lex_self, PyProof.Rows.lex_cons, ih]
    have e1 : PyProof.Rows.itemOrd.blt (Sum.inl x) (Sum.inl y) = decide (x < y) := rfl
    have e2 : PyProof.Rows.itemOrd.blt (Sum.inl y) (Sum.inl x) = decide (y < x) := rfl
    rw [e1, e2]
    by_cases h1 : x < y
    · simp [h1]
    · by_cases h2 : x = y
      · subst h2; simp
      · have h3 : y < x := by omega
        simp [h1, h2, h3]
theorem lt_iT (a b : List Int) : PySem.W.dataLt (toP (iT a)) (toP (iT b)) = lexI a b := by
  have e : ∀ l : List Int, toP (iT l) = .tuple (l.map PyData.int) := fun l => by
    show PyData.tuple (toPs (l.map D.int)) = _
    rw [toPs_ints]
  rw [e a, e b, PySem.W.dataLt_tuple, toks_lex]
theorem leL_eq (a b : List Int) : leL a b = !lexI b a := by rw [leL, leD, lt_iT]
theorem lexI_irr : ∀ a : List Int, lexI a a = false
  | [] => rfl
  | x :: r => by simp [lexI, lexI_irr r]
theorem lexI_tot : ∀ {a b : List Int}, lexI a b = false → lexI b a = false → a = b
  | [], [], _, _ => rfl
  | [], _ :: _, h, _ => by simp [lexI] at h
  | _ :: _, [], _, h => by simp [lexI] at h
  | x :: r, y :: t, h1, h2 => by
    simp only [lexI, Bool.or_eq_false_iff, decide_eq_false_iff_not, Bool.and_eq_false_iff] at h1 h2
    have e : x = y := by omega
    subst e
    rw [lexI_tot (h1.2.resolve_left fun z => z rfl) (h2.2.resolve_left fun z => z rfl)]
theorem lexI_trans : ∀ {a b c : List Int}, lexI a b = true → lexI b c = true → lexI a c = true
  | [], [], _, h, _ => by simp [lexI] at h
  | [], _ :: _, [], _, h => by simp [lexI] at h
  | [], _ :: _, _ :: _, _, _ => rfl
  | _ :: _, [], _, h, _ => by simp [lexI] at h
  | _ :: _, _ :: _, [], _, h => by simp [lexI] at h
  | x :: r, y :: t, z :: u, h1, h2 => by
    simp only [lexI, Bool.or_eq_true, decide_eq_true_eq, Bool.and_eq_true] at h1 h2 ⊢
    rcases h1 with h1 | ⟨rfl, h1⟩
    · rcases h2 with h2 | ⟨rfl, h2⟩
      · exact .inl (by omega)
      · exact .inl h1
    · rcases h2 with h2 | ⟨rfl, h2⟩
      · exact .inl h2
      · exact .inr ⟨rfl, lexI_trans h1 h2⟩
theorem lexI_asym {a b : List Int} (h : lexI a b = true) : lexI b a = false := by
  cases q : lexI b a with
  | false => rfl
  | true =>
    have := lexI_trans h q
    rw [lexI_irr] at this
    cases this
theorem leL_total (a b : List Int) : (leL a b || leL b a) = true := by
  rw [leL_eq, leL_eq]
  cases h : lexI b a with
  | false => rfl
  | true => rw [lexI_asym h]; rfl
theorem leL_trans (a b c : List Int) (h1 : leL a b = true) (h2 : leL b c = true) : leL a c = true := by
  rw [leL_eq, Bool.not_eq_true'] at h1 h2 ⊢
  cases h : lexI c a with
  | false => rfl
  | true =>
    cases q : lexI a b with
    | true =>
      have := lexI_trans h q
      rw [h2] at this
      cases this
    | false =>
      have e := lexI_tot q h1
      subst e
      rw [h] at h2
      cases h2
theorem pw_nodup_rev : ∀ r : List Int, r.Nodup → (pw r.reverse).Nodup
  | [], _ => by simp [pw]
  | k :: r, h => by
    rw [List.nodup_cons] at h
    have ih := pw_nodup_rev r h.2
    rw [List.reverse_cons, pw_snoc, List.nodup_append]
    refine ⟨ih, ?_, ?_⟩
    · refine List.Pairwise.map _ (fun a b hab e => hab ?_) ih
      exact List.append_cancel_right e
    · intro a ha b hb e
      subst e
      obtain ⟨t, _, e⟩ := List.mem_map.mp hb
      have : k ∈ a := by rw [← e]; simp
      exact h.1 (List.mem_reverse.mp ((mem_pw.mp ha).subset this))
theorem pw_nodup {keys : List Int} (h : keys.Nodup) : (pw keys).Nodup := by
  have := pw_nodup_rev keys.reverse ((List.reverse_perm keys).nodup_iff.mpr h)
  rwa [List.reverse_reverse] at this
theorem sbs_nodup {keys : List Int} (h : keys.Nodup) : (sbs keys).Nodup := (sbs_perm keys).nodup_iff.mpr (pw_nodup h)

/-- strictly in order -/
theorem sbs_sorted {keys : List Int} (h : keys.Nodup) : (sbs keys).Pairwise fun a b => lexI a b = true := by
  have h1 : (sbs keys).Pairwise fun a b => leL a b = true := List.pairwise_mergeSort leL_trans leL_total (pw keys)
  refine (h1.and (sbs_nodup h)).imp ?_
  intro a b ⟨p, q⟩
  · rw [leL_eq, Bool.not_eq_true'] at p
    cases r : lexI a b with
    | true => rfl
    | false => exact absurd (lexI_tot r p) q
theorem rg_nodup (lo hi : Int) : (rg lo hi).Nodup := (rg_rise lo hi).imp fun h => by omega
end LW


set_option Elab.async false
set_option linter.all false
set_option maxRecDepth 100000
set_option maxHeartbeats 1000000
/-! Numbers, fractions, sets of a size: rates.py. -/
namespace LW
open PySem L2 DL
variable {K : PySem.W.Frag}
theorem gMod_nat {a b : Nat} (h : 0 < b) : gMod (.int (a : Nat)) (.int (b : Nat)) = some (.int ((a % b : Nat) : Int)) := by
  rw [gMod_p (by omega)]
  rfl
theorem gFdiv_nat {a b : Nat} (h : 0 < b) (h2 : b < 2 ^ 60) : gFdivW (.int (a : Nat)) (.int (b : Nat)) = some (.int ((a / b : Nat) : Int)) := by
  rw [gFdiv_p (by omega) (by omega)]
  rfl

/-- a fraction in lowest terms -/
def frac (a b : Nat) : D := .tup [.int ((a / Nat.gcd a b : Nat) : Int), .int ((b / Nat.gcd a b : Nat) : Int)]
theorem gcd_small {a b : Nat} (hb : 0 < b) (h : b < 200) : 0 < Nat.gcd a b ∧ Nat.gcd a b < 2 ^ 60 := by
  have h1 := Nat.gcd_pos_of_pos_right a hb
  have h2 := Nat.gcd_le_right a hb
  omega
/-! ### sets of a size -/
def sizd (keys : List Int) (m : Int) : List (List Int) := (sbs keys).filter fun s => decide (((s.length : Nat) : Int) = m)
theorem sizd_len (keys : List Int) (m : Int) : (sizd keys m).length ≤ 2 ^ keys.length := Nat.le_trans (List.length_filter_le _ _) (by rw [sbs_len]; exact Nat.le_refl _)
theorem mem_sizd {keys s : List Int} {m : Int} : s ∈ sizd keys m ↔ s.Sublist keys ∧ ((s.length : Nat) : Int) = m := by
  rw [sizd, List.mem_filter, mem_sbs, decide_eq_true_eq]

/-- there are sets of each size -/
theorem sizd_pos {keys : List Int} {m : Int} (h0 : 0 ≤ m) (h : m ≤ keys.length) : 0 < (sizd keys m).length := by
  have : keys.take m.toNat ∈ sizd keys m := mem_sizd.mpr ⟨List.take_sublist _ _, by rw [List.length_take]; omega⟩
  exact List.length_pos_of_mem this
end LW


set_option Elab.async false
set_option linter.all false
set_option maxRecDepth 100000
set_option maxHeartbeats 1000000
/-! rates.py at good values. -/
namespace LW
open PySem L2 DL
variable {K : PySem.W.Frag}
def ak (rows : List (List Int)) : List Int := rg 0 rows.length
theorem ak_len (rows : List (List Int)) : (ak rows).length = rows.length := by rw [ak, rg_len]; omega
theorem sub_ok {rows : List (List Int)} {s : List Int} (h : s.Sublist (ak rows)) : KeyOk rows s := fun k hk => mem_rg.mp (h.subset hk)
theorem sub_len {rows : List (List Int)} {s : List Int} (h : s.Sublist (ak rows)) : s.length ≤ rows.length := by
  have := h.length_le
  rwa [ak_len] at this

/-- the keys that are reported wrongly -/
def wr (rows : List (List Int)) (s : List Int) : List Int := (repd rows (bitsOf rows s)).filter fun k => !decide (k ∈ s)
theorem sum_cast {α : Type} (f : α → Nat) : ∀ l : List α, (l.map fun a => ((f a : Nat) : Int)).sum = (((l.map f).sum : Nat) : Int)
  | [] => rfl
  | a :: r => by
    simp only [List.map_cons, List.sum_cons, sum_cast f r]
    omega
theorem pow_small {rows : List (List Int)} {n : Int} (v : VS n rows) (m : Int) : (sizd (ak rows) m).length ≤ 1024 := by
  refine Nat.le_trans (sizd_len _ _) ?_
  rw [ak_len]
  exact Nat.le_trans (Nat.pow_le_pow_right (by decide) v.r2) (by decide)
/-! ### the least pair -/
theorem pair_lt (x y : Int) (a b : List Int) : PySem.W.dataLt (toP (.tup [.int x, iT a])) (toP (.tup [.int y, iT b])) = (decide (x < y) || (decide (x = y) && lexI a b)) := by
  have ev : ∀ l m : List Int, PyData.eqv (toP (iT l)) (toP (iT m)) = decide (l = m) := fun l m => by
    rw [eqv_eqb 8 (iT l) (iT m) (dok_iT 7 l) (dok_iT 7 m), eqb_iT]
  show PySem.W.dataLt (.tuple [.int x, toP (iT a)]) (.tuple [.int y, toP (iT b)]) = _
  rw [PySem.W.dataLt_tuple]
  have al : PySem.W.alike (.int x) (.int y) = true := rfl
  by_cases h : x = y
  · subst h
    have e : PyData.eqv (.int x) (.int x) = true := by simp [PyData.eqv]
    rw [PySem.W.dataLt_all_yes al e]
    by_cases h2 : a = b
    · subst h2
      rw [PyProof.Rows.lex_irrefl, lexI_irr]
      simp
    · rw [PySem.W.dataLt_all_no (alike_iT a b) (by rw [ev, decide_eq_false h2]), lt_iT]
      simp
  · have e : PyData.eqv (.int x) (.int y) = false := by simp [PyData.eqv, h]
    rw [PySem.W.dataLt_all_no al e, PySem.W.dataLt_int]
    simp [h]

/-- first of the least, over any order -/
def minA {α : Type} (lt : α → α → Bool) (a : α) (l : List α) : α := l.foldl (fun x y => if lt y x then y else x) a
theorem minDD_map {α : Type} (f : α → D) (lt : α → α → Bool) (h : ∀ a b, PySem.W.dataLt (toP (f a)) (toP (f b)) = lt a b) : ∀ (l : List α) (a : α), minDD (f a) (l.map f) = f (minA lt a l)
  | [], a => rfl
  | b :: r, a => by
    have e : (if PySem.W.dataLt (toP (f b)) (toP (f a)) = true then f b else f a) = f (if lt b a = true then b else a) := by
      rw [h]
      split <;> rfl
    show minDD (if PySem.W.dataLt (toP (f b)) (toP (f a)) = true then f b else f a) (r.map f) = f (minA lt (if lt b a = true then b else a) r)
    rw [e]
    exact minDD_map f lt h r _
theorem minA_spec {α : Type} {lt : α → α → Bool} (irr : ∀ a, lt a a = false) (tr : ∀ a b c, lt a b = true → lt b c = true → lt a c = true) (nt : ∀ a b c, lt a c = true → lt a b = true ∨ lt b c = true) : ∀ (l : List α) (a : α), minA lt a l ∈ a :: l ∧ ∀ z ∈ a :: l, lt z (minA lt a l) = false
  | [], a => ⟨by simp [minA], fun z hz => by simp at hz; subst hz; exact irr _⟩
  | b :: r, a => by
    obtain ⟨h1, h2⟩ := minA_spec irr tr nt r (if lt b a = true then b else a)
    have e : minA lt a (b :: r) = minA lt (if lt b a = true then b else a) r := rfl
    rw [e]
    refine ⟨?_, fun z hz => ?_⟩
    · rcases List.mem_cons.mp h1 with q | q
      · rw [q]; split <;> simp
      · simp [q]
    · have hm := h2 _ (List.mem_cons_self ..)
      rcases List.mem_cons.mp hz with rfl | hz
      · by_cases c : lt b z = true
        · rw [if_pos c] at hm ⊢
          cases q : lt z (minA lt b r) with
          | false => rfl
          | true =>
            have := tr _ _ _ c q
            rw [hm] at this
            cases this
        · rw [if_neg c] at hm ⊢
          exact hm
      · rcases List.mem_cons.mp hz with rfl | hz
        · by_cases c : lt z a = true
          · rw [if_pos c] at hm ⊢
            exact hm
          · rw [if_neg c] at hm ⊢
            cases q : lt z (minA lt a r) with
            | false => rfl
            | true =>
              rcases nt z a _ q with k | k
              · exact absurd k c
              · rw [hm] at k
                cases k
        · exact h2 z (List.mem_cons_of_mem _ hz)
end LW


set_option Elab.async false
set_option linter.all false
set_option maxRecDepth 100000
set_option maxHeartbeats 1000000
/-! Masks, explaining sets: explaining.py. -/
namespace LW
open PySem L2 DL
variable {K : PySem.W.Frag}
def msk (l : List Int) : Nat := (l.map fun x => 2 ^ x.toNat).sum
theorem msk_dvd {x : Nat} : ∀ {l : List Int}, (∀ y ∈ l, (x : Int) < y) → 2 ^ (x + 1) ∣ msk l
  | [], _ => by simp [msk]
  | y :: r, h => by
    have ih := msk_dvd (l := r) fun z hz => h z (by simp [hz])
    have h1 := h y (by simp)
    have h2 : 2 ^ (x + 1) ∣ 2 ^ y.toNat := Nat.pow_dvd_pow 2 (by omega)
    have e : msk (y :: r) = 2 ^ y.toNat + msk r := by simp [msk]
    rw [e]
    exact Nat.dvd_add h2 ih
theorem msk_cons {x : Int} {r : List Int} (h0 : 0 ≤ x) (h : ∀ y ∈ r, x < y) : msk (x :: r) = msk r ||| 2 ^ x.toNat := by
  obtain ⟨q, e⟩ := msk_dvd (x := x.toNat) (l := r) fun y hy => by have := h y hy; omega
  have e2 : msk (x :: r) = msk r + 2 ^ x.toNat := by simp [msk, Nat.add_comm]
  rw [e2, e]
  exact Nat.two_pow_add_eq_or_of_lt (Nat.pow_lt_pow_right (by decide) (by omega)) q
theorem msk_bit : ∀ {l : List Int}, l.Pairwise (· < ·) → (∀ x ∈ l, 0 ≤ x) → ∀ i : Nat, (msk l).testBit i = decide ((i : Int) ∈ l)
  | [], _, _, i => by simp [msk]
  | x :: r, h, h0, i => by
    rw [List.pairwise_cons] at h
    have hx := h0 x (by simp)
    rw [msk_cons hx h.1, Nat.testBit_or, msk_bit h.2 (fun y hy => h0 y (by simp [hy])) i, Nat.testBit_two_pow]
    have : (x.toNat = i) ↔ ((i : Int) = x) := by omega
    rw [Bool.eq_iff_iff]
    simp only [Bool.or_eq_true, decide_eq_true_eq, List.mem_cons, this]
    exact Or.comm
theorem msk_inj {a b : List Int} (ha : a.Pairwise (· < ·)) (hb : b.Pairwise (· < ·)) (a0 : ∀ x ∈ a, 0 ≤ x) (b0 : ∀ x ∈ b, 0 ≤ x) (e : msk a = msk b) : a = b := by
  refine rise_uniq ha hb fun z => ?_
  by_cases hz : 0 ≤ z
  · have h1 := msk_bit ha a0 z.toNat
    have h2 := msk_bit hb b0 z.toNat
    rw [e, h2] at h1
    have e3 : ((z.toNat : Nat) : Int) = z := by omega
    rw [e3] at h1
    have := Bool.eq_iff_iff.mp h1
    simpa using this.symm
  · exact ⟨fun h => absurd (a0 z h) hz, fun h => absurd (b0 z h) hz⟩
theorem msk_or {a b c : List Int} (ha : a.Pairwise (· < ·)) (hb : b.Pairwise (· < ·)) (hc : c.Pairwise (· < ·)) (a0 : ∀ x ∈ a, 0 ≤ x) (b0 : ∀ x ∈ b, 0 ≤ x) (c0 : ∀ x ∈ c, 0 ≤ x) (h : ∀ x, x ∈ c ↔ x ∈ a ∨ x ∈ b) : msk a ||| msk b = msk c := by
  refine Nat.eq_of_testBit_eq fun i => ?_
  rw [Nat.testBit_or, msk_bit ha a0, msk_bit hb b0, msk_bit hc c0, Bool.eq_iff_iff]
  simp [h]
theorem msk_inj_iff {a b : List Int} (ha : a.Pairwise (· < ·)) (hb : b.Pairwise (· < ·)) (a0 : ∀ x ∈ a, 0 ≤ x) (b0 : ∀ x ∈ b, 0 ≤ x) : decide (((msk a : Nat) : Int) = ((msk b : Nat) : Int)) = decide (a = b) := by
  rw [Bool.eq_iff_iff, decide_eq_true_eq, decide_eq_true_eq]
  constructor
  · intro e
    exact msk_inj ha hb a0 b0 (by omega)
  · rintro rfl; rfl
/-! ### dicts, lists -/
theorem getD_map {κ : Type} [DecidableEq κ] (f : κ → D) : ∀ {ks : List κ} {k : κ}, k ∈ ks → getD' ks (ks.map f) k = some (f k)
  | a :: r, k, h => by
    unfold getD'
    simp only [List.map_cons]
    by_cases e : a = k
    · subst e; simp
    · rw [if_neg e]
      exact getD_map f ((List.mem_cons.mp h).resolve_left fun z => e z.symm)
theorem putD_new {κ : Type} [DecidableEq κ] {ks : List κ} {vs : List D} {k : κ} {v : D} (h : k ∉ ks) : putD ks vs k v = (ks ++ [k], vs ++ [v]) := by
  unfold putD
  rw [if_neg]
  intro z
  obtain ⟨a, h1, h2⟩ := List.any_eq_true.mp z
  simp at h2
  subst h2
  exact h h1
theorem cut_init (l : List D) (x : D) : cutD (l ++ [x]) none (some (-1)) = l := by
  unfold cutD
  have e : HT.sIx (l ++ [x]).length (l ++ [x]).length (some (-1)) = l.length := by
    show (if (-1 : Int) < 0 then ((-1 : Int) + ((l ++ [x]).length : Int)).toNat else min (-1 : Int).toNat (l ++ [x]).length) = _
    rw [if_pos (by decide), List.length_append, List.length_singleton]
    omega
  rw [e, HT.sIx_none]
  simp
theorem lexI_pre : ∀ (d : List Int) (k : Int), lexI d (d ++ [k]) = true
  | [], k => rfl
  | x :: r, k => by simp [lexI, lexI_pre r k]
theorem asInts_int (l : List Int) : asInts (l.map D.int) = some l := asInts_map l

/-- strictly ordered lists of the same items -/
theorem strict_uniq {α : Type} {lt : α → α → Prop} (irr : ∀ a, ¬ lt a a) (asy : ∀ a b, lt a b → ¬ lt b a) : ∀ {l m : List α}, l.Pairwise lt → m.Pairwise lt → (∀ x, x ∈ l ↔ x ∈ m) → l = m
  | [], [], _, _, _ => rfl
  | [], y :: t, _, _, h => by have := (h y).mpr (by simp); simp at this
  | x :: r, [], _, _, h => by have := (h x).mp (by simp); simp at this
  | x :: r, y :: t, h1, h2, h => by
    rw [List.pairwise_cons] at h1 h2
    have e : x = y := by
      rcases List.mem_cons.mp ((h x).mp (by simp)) with e | e
      · exact e
      · rcases List.mem_cons.mp ((h y).mpr (by simp)) with e2 | e2
        · exact e2.symm
        · exact absurd (h1.1 y e2) (asy _ _ (h2.1 x e))
    subst e
    congr 1
    refine strict_uniq irr asy h1.2 h2.2 fun z => ?_
    constructor
    · intro hz
      rcases List.mem_cons.mp ((h z).mp (by simp [hz])) with e | e
      · subst e; exact absurd (h1.1 _ hz) (irr _)
      · exact e
    · intro hz
      rcases List.mem_cons.mp ((h z).mpr (by simp [hz])) with e | e
      · subst e; exact absurd (h2.1 _ hz) (irr _)
      · exact e
theorem lex_uniq {l m : List (List Int)} (h1 : l.Pairwise fun a b => lexI a b = true) (h2 : m.Pairwise fun a b => lexI a b = true) (h : ∀ x, x ∈ l ↔ x ∈ m) : l = m :=
  strict_uniq (lt := fun a b => lexI a b = true) (fun a e => by rw [lexI_irr] at e; cases e) (fun a b e e2 => by rw [lexI_asym e] at e2; cases e2) h1 h2 h
/-! ### filters -/
structure Fl (n : Int) (bits : List Int) : Prop where
  ris : bits.Pairwise (· < ·)
  rng : ∀ x ∈ bits, 0 ≤ x ∧ x ≤ n - 1
theorem Fl.len {n : Int} {rows : List (List Int)} {bits : List Int} (v : VS n rows) (f : Fl n bits) : bits.length ≤ 16 := by
  have := rise_len (a := 0) (b := n) f.ris fun x hx => by have := f.rng x hx; omega
  have := v.n2
  omega
theorem fl_bits {n : Int} {rows : List (List Int)} {keys : List Int} (v : VS n rows) (ok : KeyOk rows keys) : Fl n (bitsOf rows keys) := ⟨bitsOf_rise _ _, bits_rng v ok⟩
theorem repd_len {n : Int} {rows : List (List Int)} (v : VS n rows) (bits : List Int) : (repd rows bits).length ≤ 10 := Nat.le_trans (List.length_filter_le _ _) (by rw [rg_len]; have := v.r2; omega)
theorem repd_sub (rows : List (List Int)) (bits : List Int) : (repd rows bits).Sublist (ak rows) := List.filter_sublist
def fM (rows : List (List Int)) (s : List Int) : D := .int ((msk (bitsOf rows s) : Nat) : Int)
theorem sbs_head {keys : List Int} (h : keys.Nodup) : ∃ r, sbs keys = [] :: r := by
  have hm : ([] : List Int) ∈ sbs keys := mem_sbs.mpr (List.nil_sublist _)
  have hp := sbs_sorted h
  cases e : sbs keys with
  | nil => rw [e] at hm; simp at hm
  | cons a r =>
    rw [e] at hm hp
    rcases List.mem_cons.mp hm with z | z
    · exact ⟨r, by rw [z]⟩
    · have := (List.pairwise_cons.mp hp).1 _ z
      cases a <;> simp [lexI] at this

/-- the sets of keys that explain a filter -/
def expl (rows : List (List Int)) (bits : List Int) : List (List Int) := (sbs (ak rows)).filter fun s => decide (bitsOf rows s = bits)
theorem mem_expl {rows : List (List Int)} {bits s : List Int} : s ∈ expl rows bits ↔ s.Sublist (ak rows) ∧ bitsOf rows s = bits := by
  rw [expl, List.mem_filter, mem_sbs, decide_eq_true_eq]
theorem ak_nodup (rows : List (List Int)) : (ak rows).Nodup := rg_nodup _ _
theorem ak_rise (rows : List (List Int)) : (ak rows).Pairwise (· < ·) := rg_rise _ _
theorem expl_sorted (rows : List (List Int)) (bits : List Int) : (expl rows bits).Pairwise fun a b => lexI a b = true := (sbs_sorted (ak_nodup rows)).filter _
theorem sub_rise {rows : List (List Int)} {s : List Int} (h : s.Sublist (ak rows)) : s.Pairwise (· < ·) := (ak_rise rows).sublist h

/-- rising, of the same items: sublists -/
theorem rise_sub : ∀ {s l : List Int}, s.Pairwise (· < ·) → l.Pairwise (· < ·) → (∀ x ∈ s, x ∈ l) → s.Sublist l
  | s, [], _, _, h => by
    cases s with
    | nil => exact List.Sublist.refl _
    | cons x r => have := h x (by simp); simp at this
  | [], _ :: _, _, _, _ => List.nil_sublist _
  | x :: r, y :: t, hs, hl, h => by
    rw [List.pairwise_cons] at hs hl
    by_cases e : x = y
    · subst e
      refine List.Sublist.cons_cons x (rise_sub hs.2 hl.2 fun z hz => ?_)
      rcases List.mem_cons.mp (h z (by simp [hz])) with q | q
      · subst q; have := hs.1 _ hz; omega
      · exact q
    · have hx : x ∈ t := (List.mem_cons.mp (h x (by simp))).resolve_left e
      refine List.Sublist.cons y (rise_sub (List.pairwise_cons.mpr hs) hl.2 fun z hz => ?_)
      rcases List.mem_cons.mp hz with q | q
      · subst q; exact hx
      · rcases List.mem_cons.mp (h z (by simp [q])) with q2 | q2
        · subst q2
          have := hs.1 _ q
          have := hl.1 _ hx
          omega
        · exact q2
theorem in_repd {rows : List (List Int)} {s : List Int} (h : s.Sublist (ak rows)) : ∀ k ∈ s, k ∈ repd rows (bitsOf rows s) := fun k hk =>
  mem_repd.mpr ⟨sub_ok h k hk, fun x hx => mem_bitsOf.mpr ⟨k, hk, hx⟩⟩
theorem sub_repd {rows : List (List Int)} {s bits : List Int} (h : s.Sublist (ak rows)) (e : bitsOf rows s = bits) : s.Sublist (repd rows bits) :=
  rise_sub (sub_rise h) (repd_rise _ _) fun k hk => by rw [← e]; exact in_repd h k hk
theorem expl_rep (rows : List (List Int)) (bits : List Int) : ((sbs (repd rows bits)).filter fun s => decide (bitsOf rows s = bits)) = expl rows bits := by
  have nd : (repd rows bits).Nodup := (repd_rise rows bits).imp fun h => by omega
  refine lex_uniq ((sbs_sorted nd).filter _) (expl_sorted _ _) fun s => ?_
  rw [List.mem_filter, mem_sbs, decide_eq_true_eq, mem_expl]
  exact ⟨fun ⟨h1, h2⟩ => ⟨h1.trans (repd_sub _ _), h2⟩, fun ⟨h1, h2⟩ => ⟨sub_repd h1 h2, h2⟩⟩
theorem merge_id {l : List (List Int)} (h : l.Pairwise fun a b => lexI a b = true) : l.mergeSort leL = l :=
  List.mergeSort_of_pairwise (h.imp fun {a b} e => by rw [leL_eq, lexI_asym e]; rfl)
end LW


set_option Elab.async false
set_option linter.all false
set_option maxRecDepth 100000
set_option maxHeartbeats 1000000
/-! explaining.py: what the functions compute, and the plain law of explaining sets. -/
namespace LW
open PySem L2 DL
variable {K : PySem.W.Frag}
/-! ### plain -/
theorem bits_mono {rows : List (List Int)} {s t : List Int} (h : ∀ k ∈ s, k ∈ t) : ∀ x ∈ bitsOf rows s, x ∈ bitsOf rows t := fun x hx => by
  obtain ⟨k, h1, h2⟩ := mem_bitsOf.mp hx
  exact mem_bitsOf.mpr ⟨k, h k h1, h2⟩
theorem rep_bits {rows : List (List Int)} {bits : List Int} : ∀ x ∈ bitsOf rows (repd rows bits), x ∈ bits := fun x hx => by
  obtain ⟨k, h1, h2⟩ := mem_bitsOf.mp hx
  exact (mem_repd.mp h1).2 x h2
theorem squeeze {rows : List (List Int)} {s t bits : List Int} (e : bitsOf rows s = bits) (h1 : ∀ k ∈ s, k ∈ t) (h2 : ∀ k ∈ t, k ∈ repd rows bits) : bitsOf rows t = bits := by
  refine rise_uniq (bitsOf_rise _ _) (e ▸ bitsOf_rise _ _) fun x => ⟨fun hx => rep_bits x (bits_mono h2 x hx), fun hx => ?_⟩
  rw [← e] at hx
  exact bits_mono h1 x hx
theorem rep_expl {rows : List (List Int)} {bits s : List Int} (h : s ∈ expl rows bits) : bitsOf rows (repd rows bits) = bits := by
  obtain ⟨h1, h2⟩ := mem_expl.mp h
  exact squeeze h2 (fun k hk => (sub_repd h1 h2).subset hk) fun k hk => hk
theorem rep_in {rows : List (List Int)} {bits : List Int} (h : bitsOf rows (repd rows bits) = bits) : repd rows bits ∈ expl rows bits := mem_expl.mpr ⟨repd_sub _ _, h⟩
theorem expl_ne {rows : List (List Int)} {bits : List Int} : expl rows bits ≠ [] ↔ bitsOf rows (repd rows bits) = bits := by
  constructor
  · intro h
    cases e : expl rows bits with
    | nil => exact absurd e h
    | cons a r => exact rep_expl (s := a) (by rw [e]; simp)
  · intro h e
    have := rep_in h
    rw [e] at this
    simp at this
theorem expl_len {n : Int} {rows : List (List Int)} (v : VS n rows) (bits : List Int) : (expl rows bits).length ≤ 1024 := by
  refine Nat.le_trans (List.length_filter_le _ _) ?_
  rw [sbs_len, ak_len]
  exact Nat.le_trans (Nat.pow_le_pow_right (by decide) v.r2) (by decide)

/-- without one -/
def wo (k : Int) (l : List Int) : List Int := l.filter fun x => !decide (x = k)
theorem mem_wo {k x : Int} {l : List Int} : x ∈ wo k l ↔ x ∈ l ∧ x ≠ k := by simp [wo]
theorem wo_sub (k : Int) (l : List Int) : (wo k l).Sublist l := List.filter_sublist
theorem wo_len (k : Int) (l : List Int) : (wo k l).length ≤ l.length := List.length_filter_le _ _
theorem wo_lt {k : Int} {l : List Int} (h : k ∈ l) : (wo k l).length < l.length := by
  unfold wo
  refine Nat.lt_of_le_of_ne (List.length_filter_le _ _) fun e => ?_
  have := (List.length_filter_eq_length_iff.mp e) k h
  simp at this
def sure (rows : List (List Int)) (bits : List Int) : List Int := (repd rows bits).filter fun k => !decide (bitsOf rows (wo k (repd rows bits)) = bits)
theorem mem_sure {rows : List (List Int)} {bits : List Int} {k : Int} (h : bitsOf rows (repd rows bits) = bits) : k ∈ sure rows bits ↔ ∀ s ∈ expl rows bits, k ∈ s := by
  rw [sure, List.mem_filter]
  simp only [Bool.not_eq_true', decide_eq_false_iff_not]
  constructor
  · rintro ⟨h1, h2⟩ s hs
    refine Classical.byContradiction fun hk => h2 ?_
    obtain ⟨a, b⟩ := mem_expl.mp hs
    refine squeeze b (fun z hz => mem_wo.mpr ⟨(sub_repd a b).subset hz, fun e => hk (e ▸ hz)⟩) fun z hz => (mem_wo.mp hz).1
  · intro h1
    refine ⟨h1 _ (rep_in h), fun e => ?_⟩
    have := h1 (wo k (repd rows bits)) (mem_expl.mpr ⟨(wo_sub _ _).trans (repd_sub _ _), e⟩)
    exact (mem_wo.mp this).2 rfl
theorem sure_rise (rows : List (List Int)) (bits : List Int) : (sure rows bits).Pairwise (· < ·) := (repd_rise _ _).filter _
theorem sure_law {rows : List (List Int)} {bits : List Int} (h : bitsOf rows (repd rows bits) = bits) : sure rows bits = (ak rows).filter fun k => decide (((expl rows bits).filter fun s => !decide (k ∈ s)) = []) := by
  refine rise_uniq (sure_rise _ _) ((ak_rise _).filter _) fun k => ?_
  rw [mem_sure h, List.mem_filter, decide_eq_true_eq, List.filter_eq_nil_iff]
  constructor
  · intro hk
    exact ⟨(repd_sub _ _).subset (hk _ (rep_in h)), fun s hs => by simp [hk s hs]⟩
  · rintro ⟨_, hk⟩ s hs
    simpa using hk s hs
theorem poss_law {rows : List (List Int)} {bits : List Int} (h : bitsOf rows (repd rows bits) = bits) : repd rows bits = (ak rows).filter fun k => !decide (((expl rows bits).filter fun s => decide (k ∈ s)) = []) := by
  refine rise_uniq (repd_rise _ _) ((ak_rise _).filter _) fun k => ?_
  rw [List.mem_filter, Bool.not_eq_true', decide_eq_false_iff_not, List.filter_eq_nil_iff]
  constructor
  · intro hk
    refine ⟨(repd_sub _ _).subset hk, fun z => ?_⟩
    have := z _ (rep_in h)
    simp [hk] at this
  · rintro ⟨_, hk⟩
    refine Classical.byContradiction fun z => hk fun s hs q => z ?_
    obtain ⟨a, b⟩ := mem_expl.mp hs
    exact (sub_repd a b).subset (by simpa using q)

/-- no smaller explaining set within -/
def isSm (rows : List (List Int)) (bits s : List Int) : Bool := !(s.any fun o => decide (bitsOf rows (wo o s) = bits))
theorem sub_full : ∀ {s t : List Int}, s.Nodup → (∀ x ∈ s, x ∈ t) → s.length ≤ t.length
  | [], _, _, _ => by simp
  | x :: r, t, h, hs => by
    rw [List.nodup_cons] at h
    have hx := hs x (by simp)
    have ih := sub_full (s := r) (t := t.erase x) h.2 fun z hz => by
      have hne : z ≠ x := fun e => h.1 (e ▸ hz)
      exact (List.mem_erase_of_ne hne).mpr (hs z (by simp [hz]))
    rw [List.length_erase_of_mem hx] at ih
    have := List.length_pos_of_mem hx
    simp only [List.length_cons]
    omega
theorem small_law {rows : List (List Int)} {bits s : List Int} (hs : s ∈ expl rows bits) : isSm rows bits s = decide (((expl rows bits).filter fun t => decide (t.length < s.length) && decide ((t.filter fun k => !decide (k ∈ s)) = [])) = []) := by
  obtain ⟨a, b⟩ := mem_expl.mp hs
  have nd : s.Nodup := (sub_rise a).imp fun h => by omega
  rw [Bool.eq_iff_iff, decide_eq_true_eq, List.filter_eq_nil_iff, isSm, Bool.not_eq_true', List.any_eq_false]
  constructor
  · intro h t ht q
    simp only [Bool.and_eq_true, decide_eq_true_eq, List.filter_eq_nil_iff, Bool.not_eq_true', decide_eq_false_iff_not] at q
    obtain ⟨c, d⟩ := mem_expl.mp ht
    have hsub : ∀ x ∈ t, x ∈ s := fun x hx => Classical.byContradiction fun z => q.2 x hx z
    obtain ⟨x, hx, hn⟩ : ∃ x ∈ s, x ∉ t := Classical.byContradiction fun z => by
      have : s.length ≤ t.length := sub_full nd fun x hx => Classical.byContradiction fun y => z ⟨x, hx, y⟩
      omega
    have := h x hx
    simp only [decide_eq_true_eq] at this
    exact this (squeeze d (fun k hk => mem_wo.mpr ⟨hsub k hk, fun e => hn (e ▸ hk)⟩) fun k hk => (sub_repd a b).subset (mem_wo.mp hk).1)
  · intro h x hx z
    simp only [decide_eq_true_eq] at z
    refine h (wo x s) (mem_expl.mpr ⟨(wo_sub _ _).trans a, z⟩) ?_
    simp only [Bool.and_eq_true, decide_eq_true_eq, List.filter_eq_nil_iff, Bool.not_eq_true', decide_eq_false_iff_not]
    exact ⟨wo_lt hx, fun k hk q => q (mem_wo.mp hk).1⟩
/-! ### the functions -/
theorem Fl.check {n : Int} {rows : List (List Int)} {bits : List Int} (v : VS n rows) (f : Fl n bits) : m_check_filter K [sD n rows, iT bits] = .ok .non := by
  have := f.len v
  rw [check_filter_eq (ask_iT (by omega)), isRis_ok f.ris f.rng, if_pos rfl]
theorem dIn_fun {ρ : DL.Env} {g : D → DL.Env → Option DL.Env} {ek ev : DL.Env → R D} (f : Int → D) : ∀ (items ks : List Int) (vs : List D), (∀ x ∈ items, ∃ ρ1, g (.int x) ρ = some ρ1 ∧ ek ρ1 = .ok (.int x) ∧ ev ρ1 = .ok (f x)) → items.Nodup → (∀ x ∈ items, x ∉ ks) → ks.length + items.length < 100000 →
    dIn g ek ev ρ (items.map D.int) ks vs = .ok (ks ++ items, vs ++ items.map f)
  | [], ks, vs, _, _, _, _ => by simp [dIn]
  | a :: r, ks, vs, he, nd, hn, hl => by
    obtain ⟨ρ1, e1, e2, e3⟩ := he a (by simp)
    rw [List.nodup_cons] at nd
    simp only [List.length_cons] at hl
    rw [List.map_cons]
    unfold dIn
    simp only [e1, e2, e3]
    rw [if_pos (by omega), putD_new (hn a (by simp))]
    rw [dIn_fun f r (ks ++ [a]) (vs ++ [f a]) (fun x hx => he x (by simp [hx])) nd.2 (fun x hx q => ?_) (by simp; omega)]
    · simp
    · rcases List.mem_append.mp q with q | q
      · exact hn x (by simp [hx]) q
      · simp at q
        subst q
        exact nd.1 hx
theorem wo_lc {ρ : DL.Env} {i j : Nat} {k : Int} (l : List Int) (hi : i < ρ.length) (hj : ρ[j]? = some (.val (.int k))) (hij : i ≠ j) : lcLoop (gSet i) (asB (op2 gNe (eVar i) (eVar j))) (eVar i) ρ (l.map D.int) = .ok ((wo k l).map D.int) := by
  rw [lc_filt (fun x => !decide (x = k)) l]
  rotate_left
  · intro x _
    refine ⟨_, rfl, ?_, ?_⟩
    · simp [List.getElem?_set_self hi, List.getElem?_set_ne hij, hj, dok]
    · simp [List.getElem?_set_self hi]
  rfl
def lnI (s : List Int) : Int := (s.length : Nat)
theorem idx_iT (l : List (List Int)) (s : List Int) : idxD (l.map iT) (iT s) = l.findIdx? fun z => decide (z = s) := by
  unfold idxD
  rw [List.findIdx?_map]
  congr 1
  funext z
  exact eqb_iT z s
theorem idx_at {l : List (List Int)} (hs : l.Pairwise fun a b => lexI a b = true) {j : Nat} {s : List Int} (h : l[j]? = some s) : l.findIdx? (fun z => decide (z = s)) = some j := by
  obtain ⟨hj, e⟩ := List.getElem?_eq_some_iff.mp h
  rw [List.findIdx?_eq_some_iff_getElem]
  refine ⟨hj, by simp [e], fun i hi => ?_⟩
  have hl : i < l.length := by omega
  have := List.pairwise_iff_getElem.mp hs i j hl hj hi
  intro z
  have z := of_decide_eq_true z
  rw [e] at this
  rw [z, lexI_irr] at this
  cases this
end LW


set_option Elab.async false
set_option linter.all false
set_option maxRecDepth 100000
set_option maxHeartbeats 1000000
/-! What the laws of the first family share: lists of bad values, lists of sets, explaining sets by trying. -/
namespace LW
open PySem L2 DL
variable {K : PySem.W.Frag}
theorem atI_k {α : Type} {l : List α} {a : α} (k : Nat) (h : l[k]? = some a) : atI l (OfNat.ofNat k : Int) = some a := atI_nat' (i := k) h
@[simp] theorem atI_3 {α : Type} (a b c d : α) (l : List α) : atI (a :: b :: c :: d :: l) 3 = some d := atI_nat' (i := 3) rfl
@[simp] theorem atI_4 {α : Type} (a b c d e : α) (l : List α) : atI (a :: b :: c :: d :: e :: l) 4 = some e := atI_nat' (i := 4) rfl
@[simp] theorem atI_5 {α : Type} (a b c d e f : α) (l : List α) : atI (a :: b :: c :: d :: e :: f :: l) 5 = some f := atI_nat' (i := 5) rfl
@[simp] theorem atI_6 {α : Type} (a b c d e f g : α) (l : List α) : atI (a :: b :: c :: d :: e :: f :: g :: l) 6 = some g := atI_nat' (i := 6) rfl
theorem atI_ex {α : Type} {l : List α} {i : Int} (h0 : 0 ≤ i) (h : i < l.length) : ∃ a ∈ l, atI l i = some a := by
  have hl : i.toNat < l.length := by omega
  exact ⟨l[i.toNat], List.getElem_mem hl, atI_of h0 (List.getElem?_eq_getElem hl)⟩
def bad6 : List D := [.non, .tup [.int 0, .tup [iT [0]]], .tup [.int 4, .tup []], .tup [.int 4, .tup [.tup []]], .tup [.int 4, .tup [iT [1, 0]]], .tup [.int 4, .tup [iT [4]]]]
theorem bad6_bad {v : D} (h : v ∈ bad6) : m_is_scheme K [v] = .ok (.bl false) := by
  simp only [bad6, List.mem_cons, List.not_mem_nil, or_false] at h
  rcases h with rfl | rfl | rfl | rfl | rfl | rfl <;> rfl
def odd8 : List D := [.non, iL [0], iT [0, 0], iT [1, 0], iT [-1], iT [99], .tup [.bl true], .str "0"]
theorem odd8_odd {v : D} (h : v ∈ odd8) : Ask v ∧ ∀ m : Int, m ≤ 90 → isRis v m = false := by
  simp only [odd8, List.mem_cons, List.not_mem_nil, or_false] at h
  rcases h with rfl | rfl | rfl | rfl | rfl | rfl | rfl | rfl
  · exact ⟨⟨rfl, fun ds e => by cases e⟩, fun m _ => rfl⟩
  · exact ⟨⟨rfl, fun ds e => by cases e⟩, fun m _ => rfl⟩
  · exact ⟨ask_iT (by decide), fun m _ => by simp [isRis_iT, nexts]⟩
  · exact ⟨ask_iT (by decide), fun m _ => by simp [isRis_iT, nexts]⟩
  · exact ⟨ask_iT (by decide), fun m _ => by simp [isRis_iT]⟩
  · exact ⟨ask_iT (by decide), fun m hm => by
      have : ¬ (99 : Int) ≤ m := by omega
      simp [isRis_iT, this]⟩
  · exact ⟨⟨rfl, fun ds e => by cases e; exact ⟨by decide, fun x hx => by simp at hx; subst hx; rfl⟩⟩, fun m _ => by simp [isRis, isInt]⟩
  · exact ⟨⟨rfl, fun ds e => by cases e⟩, fun m _ => rfl⟩

/-- values that are no number from 0 to m -/
def odd5 (m : Int) : List D := [.non, .int (-1), .bl true, .str "0", .int m]
theorem odd5_odd {m : Int} {v : D} (h : v ∈ odd5 m) {b : Int} (hb : b < m) : (tyName v).isSome = true ∧ isInt v 0 b = false := by
  simp only [odd5, List.mem_cons, List.not_mem_nil, or_false] at h
  rcases h with rfl | rfl | rfl | rfl | rfl
  · exact ⟨rfl, rfl⟩
  · exact ⟨rfl, by simp [isInt]⟩
  · exact ⟨rfl, rfl⟩
  · exact ⟨rfl, rfl⟩
  · exact ⟨rfl, by
      have : ¬ m ≤ b := by omega
      simp [isInt, this]⟩
/-! ### lists of sets -/
@[simp] theorem eqbs_iTs : ∀ l m : List (List Int), eqbs (l.map iT) (m.map iT) = decide (l = m)
  | [], [] => rfl
  | [], _ :: _ => by simp [eqbs]
  | _ :: _, [] => by simp [eqbs]
  | x :: r, y :: t => by
    simp only [List.map_cons, eqbs, eqb_iT, eqbs_iTs r t, List.cons.injEq]
    by_cases h1 : x = y <;> by_cases h2 : r = t <;> simp [h1, h2]
def sL (l : List (List Int)) : D := .lst (l.map iT)
@[simp] theorem dok_sL (n : Nat) (l : List (List Int)) : dok (n + 2) (sL l) = true := by
  have := doks_iTs n l
  simpa [sL, dok] using this
@[simp] theorem eqb_sL (l m : List (List Int)) : eqb (sL l) (sL m) = decide (l = m) := by
  rw [← eqbs_iTs]
  simp [sL, eqb]
@[simp] theorem items_sL (l : List (List Int)) : itemsD (sL l) = .ok (l.map iT) := rfl
@[simp] theorem gLen_sL (l : List (List Int)) : gLen [sL l] = some (.int (l.length : Nat)) := by simp [sL]
@[simp high] theorem gEq_nil (l : List (List Int)) : gEq (.lst (l.map iT)) (.lst []) = some (.bl (decide (l = []))) := by
  have e := gEq_ev (sL l) (sL [])
  simp only [dok_sL, Bool.and_true, if_true, eqb_sL] at e
  exact e
@[simp high] theorem gNe_nil (l : List (List Int)) : gNe (.lst (l.map iT)) (.lst []) = some (.bl (!decide (l = []))) := by
  have e := gNe_ev (sL l) (sL [])
  simp only [dok_sL, Bool.and_true, if_true, eqb_sL] at e
  exact e
@[simp high] theorem gEq_nilI (l : List Int) : gEq (.lst (l.map D.int)) (.lst []) = some (.bl (decide (l = []))) := by
  have e := gEq_ev (iL l) (iL [])
  simp only [dok_iL, Bool.and_true, if_true, eqb_iL] at e
  exact e
@[simp high] theorem gNe_nilI (l : List Int) : gNe (.lst (l.map D.int)) (.lst []) = some (.bl (!decide (l = []))) := by
  have e := gNe_ev (iL l) (iL [])
  simp only [dok_iL, Bool.and_true, if_true, eqb_iL] at e
  exact e
@[simp] theorem dok_lsI (n : Nat) (l : List Int) : dok (n + 1) (.lst (l.map D.int)) = true := dok_iL n l
@[simp] theorem dok_ls0 (n : Nat) : dok (n + 1) (.lst []) = true := dok_iL n []
@[simp] theorem dok_lsT (n : Nat) (l : List (List Int)) : dok (n + 2) (.lst (l.map iT)) = true := dok_sL n l
@[simp] theorem eqb_lsI (l m : List Int) : eqb (.lst (l.map D.int)) (.lst (m.map D.int)) = decide (l = m) := eqb_iL l m
@[simp] theorem eqb_lsI0 (l : List Int) : eqb (.lst (l.map D.int)) (.lst []) = decide (l = []) := eqb_iL l []
@[simp] theorem eqb_lsT (l m : List (List Int)) : eqb (.lst (l.map iT)) (.lst (m.map iT)) = decide (l = m) := eqb_sL l m
@[simp] theorem eqb_lsT0 (l : List (List Int)) : eqb (.lst (l.map iT)) (.lst []) = decide (l = []) := eqb_sL l []
@[simp] theorem eqb_ls00 : eqb (.lst []) (.lst []) = true := rfl
/-! ### slices of lists, enumerate -/
theorem cut_take (l : List D) (k : Nat) : cutD l none (some (k : Int)) = l.take k := by
  unfold cutD
  rw [HT.sIx_nat, HT.sIx_none]
  simp only [Nat.sub_zero, List.drop_zero]
  rw [List.take_eq_take_iff]
  omega
theorem cut_last (l : List D) : cutD l (some (-1)) none = l.drop (l.length - 1) := by
  unfold cutD
  have e : HT.sIx l.length 0 (some (-1)) = l.length - 1 := by
    show (if (-1 : Int) < 0 then ((-1 : Int) + (l.length : Int)).toNat else min (-1 : Int).toNat l.length) = _
    rw [if_pos (by decide)]
    omega
  rw [e, HT.sIx_none, List.take_of_length_le]
  simp
theorem enum_map {α : Type} (f : α → D) (l : List α) : enumD (l.map f) = l.zipIdx.map fun p => .tup [.int (p.2 : Nat), f p.1] := by
  unfold enumD
  rw [List.zipIdx_map, List.map_map]
  rfl
end LW


set_option Elab.async false
set_option linter.all false
set_option maxRecDepth 100000
set_option maxHeartbeats 1000000
/-! schemes.py at good values; tuples among tuples, in order. -/
namespace LW
open PySem L2 DL
variable {K : PySem.W.Frag}
/-! ### the public functions at good values -/
theorem isRis_keys {rows : List (List Int)} {keys : List Int} (h : keys.Pairwise (· < ·)) (ok : KeyOk rows keys) : isRis (iT keys) ((rows.length : Nat) - 1) = true := isRis_ok h fun x hx => by
  have := ok x hx
  omega
theorem filt_len {n : Int} {rows : List (List Int)} {bits : List Int} (v : VS n rows) (h : bits.Pairwise (· < ·)) (r : ∀ x ∈ bits, 0 ≤ x ∧ x ≤ n - 1) : bits.length ≤ 16 := by
  have := rise_len (a := 0) (b := n) h fun x hx => by have := r x hx; omega
  have := v.n2
  omega
theorem check_filter_ok {n : Int} {rows : List (List Int)} {bits : List Int} (v : VS n rows) (h : bits.Pairwise (· < ·)) (r : ∀ x ∈ bits, 0 ≤ x ∧ x ≤ n - 1) : m_check_filter K [sD n rows, iT bits] = .ok .non := by
  have := filt_len v h r
  rw [check_filter_eq (ask_iT (by omega)), isRis_ok h r, if_pos rfl]
theorem mem_iTs (s : List Int) (l : List (List Int)) : memD (iT s) (l.map iT) = decide (s ∈ l) := by
  unfold memD
  induction l with
  | nil => simp
  | cons y r ih =>
    simp only [List.map_cons, List.any_cons, eqb_iT, ih, List.mem_cons]
    by_cases h1 : s = y
    · subst h1; simp
    · have : ¬ y = s := fun z => h1 z.symm
      by_cases h2 : s ∈ r <;> simp [h1, h2, this]
@[simp] theorem gIn_sL (s : List Int) (l : List (List Int)) : gIn (iT s) (.lst (l.map iT)) = some (.bl (decide (s ∈ l))) := by
  have h1 := doks_iTs 6 l
  simp [gIn, h1, mem_iTs]
@[simp] theorem gLt_iT (a b : List Int) : gLt (iT a) (iT b) = some (.bl (lexI a b)) := by
  have h : cmpOk (iT a) (iT b) = true := by
    unfold cmpOk
    rw [dok_iT, dok_iT, alike_iT]
    rfl
  show (if cmpOk (iT a) (iT b) = true then some (D.bl (PySem.W.dataLt (toP (iT a)) (toP (iT b)))) else none) = _
  rw [if_pos h, lt_iT]
theorem sub_of {rows : List (List Int)} {s : List Int} (h : s.Pairwise (· < ·)) (ok : KeyOk rows s) : s.Sublist (ak rows) := rise_sub h (ak_rise _) fun x hx => mem_rg.mpr (ok x hx)
theorem minI_ex : ∀ {l : List Int}, l ≠ [] → ∃ m, minI l = some m ∧ m ∈ l
  | [], h => absurd rfl h
  | [x], _ => ⟨x, rfl, by simp⟩
  | x :: y :: r, _ => by
    obtain ⟨m, e, hm⟩ := minI_ex (l := y :: r) (by simp)
    unfold minI
    rw [e]
    by_cases c : x ≤ m
    · exact ⟨x, by simp [c], by simp⟩
    · exact ⟨m, by simp [c], by simp [List.mem_cons.mp hm]⟩
theorem minI_is {l : List Int} {m : Int} (h1 : m ∈ l) (h2 : ∀ y ∈ l, m ≤ y) : minI l = some m := by
  obtain ⟨m', e, _⟩ := minI_ex (l := l) (by intro z; rw [z] at h1; simp at h1)
  obtain ⟨a, b⟩ := minI_spec e
  have : m = m' := by have := h2 _ a; have := b _ h1; omega
  rw [this]
  exact e
end LW


set_option Elab.async false
set_option linter.all false
set_option maxRecDepth 100000
set_option maxHeartbeats 1000000
/-! The second family of the laws' helpers: drawn numbers, tuples, schemes; all sets. -/
namespace LW
open PySem L2 DL
variable {K : PySem.W.Frag}
theorem pick_while (a b c d s6 : DL.Slot) : ∀ (n : Nat) (again rest : Int), again < n → 0 < n → ∃ again' rest' : Int,
    whileN (bAnd (asB (op2 gGt0 (eVar 4) (eC (.int 0)))) (asB (op2 gGt0 (eVar 5) (eC (.int 0))))) (b1__law_pick K) n [a, b, c, d, .val (.int rest), .val (.int again), s6]
      = some (.nx [a, b, c, d, .val (.int rest'), .val (.int again'), s6])
  | 0, again, rest, h, h0 => by omega
  | n + 1, again, rest, h, h0 => by
    unfold whileN
    by_cases h1 : 0 < rest
    · by_cases h2 : 0 < again
      · obtain ⟨t', r', e⟩ := pick_while a b c d s6 n (again - 1) (rest / 840) (by omega) (by omega)
        have eb : b1__law_pick K [a, b, c, d, .val (.int rest), .val (.int again), s6] = some (.nx [a, b, c, d, .val (.int (rest / 840)), .val (.int (again - 1)), s6]) := by simp [b1__law_pick]
        refine ⟨t', r', ?_⟩
        simp [h1, h2, eb, e]
      · exact ⟨again, rest, by simp [h1, h2]⟩
    · exact ⟨again, rest, by simp [h1]⟩
def pf1 (cell k : Int) : Int := (cell * 31 + 6151 * (k + 1)) * 40692 % 2147483399
def pf2 (c many : Int) : Int := (c * c + c / 31) % 2147483629 % many
theorem pf2_range {c many : Int} (hm : 0 < many) : 0 ≤ pf2 c many ∧ pf2 c many < many := ⟨Int.emod_nonneg _ (by omega), Int.emod_lt_of_pos _ hm⟩
theorem pick_ok (ns : List Int) {k many : Int} (hk : 0 ≤ k) (hk2 : k < 400) (hl : ns.length ≤ 63) (hm : 0 < many) : ∃ r : Int, m__law_pick K [.scr ns, .int k, .int many] = .ok (.int r) ∧ 0 ≤ r ∧ r < many := by
  have hpow : gPow (.int 10) (.int 18) = some (.int (1000000000000000000)) := by rfl
  have hmx : ∃ x : Int, gMax [.int ((ns.length : Nat) : Int), .int 1] = some (.int x) ∧ 0 < x ∧ x < 2 ^ 64 := by
    refine ⟨_, rfl, ?_⟩
    split <;> omega
  obtain ⟨x, ex, x0, x1⟩ := hmx
  have hcell : ∃ c : Int, eIf (asB (op2 gNe (eVar 0) (eArgs gLstD aNil))) (op2 gIx (eVar 0) (op2 gMod (eVar 1) (eArgs gLen (aCons (eVar 0) aNil)))) (eC (.int 0)) [.val (.scr ns), .val (.int k), .val (.int many), .un, .un, .un, .un] = .ok (.int c) := by
    by_cases hn : ns = []
    · subst hn
      exact ⟨0, by simp [dok, doks, eqb, scrEq]⟩
    · have hp : (0 : Int) < (ns.length : Nat) := by
        cases ns with
        | nil => exact absurd rfl hn
        | cons _ _ => simp
      have h1 := Int.emod_nonneg k (by omega : ((ns.length : Nat) : Int) ≠ 0)
      have h2 := Int.emod_lt_of_pos k hp
      have h3 : (k % (ns.length : Nat)).toNat < ns.length := by omega
      refine ⟨ns[(k % (ns.length : Nat)).toNat], ?_⟩
      · simp only [ev_if, ev_asB, ev_op2, ev_var, ev_args, ev_cons, ev_nil, List.getElem?_cons_succ, List.getElem?_cons_zero, R.bind_ok, gLstD_ev, List.length_nil, Nat.zero_le, if_true, R.lift_some, gNe_ev, dok, doks, Bool.and_true, neEmpty, decide_eq_false hn, Bool.not_false, gLen_scr, gMod_p hp, gIx_scr, atI_of h1 (List.getElem?_eq_getElem h3), Option.map_some]
  obtain ⟨c, ec⟩ := hcell
  have ha : k / x < (400 : Nat) := by
    have : k / x ≤ k := Int.ediv_le_self x hk
    omega
  obtain ⟨t', r', ew⟩ := pick_while (K := K) (.val (.scr ns)) (.val (.int k)) (.val (.int many)) (.val (.int c)) .un 400 (k / x) (c / 1000000000000000000) ha (by decide)
  have hf : gFdivW (.int c) (.int (1000000000000000000)) = some (.int (c / 1000000000000000000)) := gFdiv_p (by decide) (by decide)
  simp only [m__law_pick, g__law_pick, fnD_ev, startE, List.map_cons, List.map_nil, List.length_cons, List.length_nil, List.cons_append, List.nil_append, List.replicate]
  rw [ev_seq, ev_set, ec]
  simp only [List.set_cons_succ, List.set_cons_zero]
  rw [ev_seq]
  simp only [ev_par, ev_mVal, ev_mNil, ev_op2, ev_var, ev_c, ev_args, ev_cons, ev_nil, List.getElem?_cons_succ, List.getElem?_cons_zero, R.bind_ok, hpow, R.lift_some, hf, gLen_scr, ex, gFdiv_p x0 x1, List.length_cons, List.length_nil, if_true, ev_setC, ev_setC0, List.set_cons_succ, List.set_cons_zero]
  rw [ev_seq, ew]
  simp only []
  rw [ev_seq, ev_sif]
  simp only [ev_asB, ev_op2, ev_var, ev_c, List.getElem?_cons_succ, List.getElem?_cons_zero, R.bind_ok, gGt_int, R.lift_some]
  by_cases h3 : 0 < r'
  · refine ⟨r' % 840 % many, ?_, Int.emod_nonneg _ (by omega), Int.emod_lt_of_pos _ hm⟩
    simp only [decide_eq_true h3, if_true, ev_ret, ev_op2, ev_var, ev_c, List.getElem?_cons_succ, List.getElem?_cons_zero, R.bind_ok, R.lift_some, gMod_p (show (0 : Int) < 840 by decide), gMod_p hm]
  · refine ⟨pf2 (pf1 c k) many, ?_, pf2_range hm⟩
    have h1 : -(2 ^ 64) < pf1 c k ∧ pf1 c k < 2 ^ 64 := by unfold pf1; omega
    simp only [decide_eq_false h3, Bool.false_eq_true, if_false, ev_sNil]
    rw [ev_seq]
    simp only [ev_set, ev_op2, ev_var, ev_c, List.getElem?_cons_succ, List.getElem?_cons_zero, R.bind_ok, gAdd_int, R.lift_some, List.set_cons_succ, List.set_cons_zero,
      gMul_r (show -(2 ^ 64) < (31 : Int) by decide) (show (31 : Int) < 2 ^ 64 by decide), gMul_l (show -(2 ^ 64) < (6151 : Int) by decide) (show (6151 : Int) < 2 ^ 64 by decide), gMul_r (show -(2 ^ 64) < (40692 : Int) by decide) (show (40692 : Int) < 2 ^ 64 by decide), gMod_p (show (0 : Int) < 2147483399 by decide)]
    rw [show (c * 31 + 6151 * (k + 1)) * 40692 % 2147483399 = pf1 c k from rfl]
    simp only [ev_ret, ev_op2, ev_var, ev_c, List.getElem?_cons_succ, List.getElem?_cons_zero, R.bind_ok, R.lift_some, gMul_r h1.1 h1.2, gAdd_int, gFdiv_p (show (0 : Int) < 31 by decide) (by decide), gMod_p (show (0 : Int) < 2147483629 by decide), gMod_p hm]
    rfl

/-- a drawn number -/
def pk (K : PySem.W.Frag) (ns : List Int) (k many : Int) : Int := match m__law_pick K [.scr ns, .int k, .int many] with
  | .ok (.int r) => r
  | _ => 0
theorem pk_eq {ns : List Int} {k many : Int} (hl : ns.length ≤ 63) (hk : 0 ≤ k) (hk2 : k < 400) (hm : 0 < many) : m__law_pick K [.scr ns, .int k, .int many] = .ok (.int (pk K ns k many)) := by
  obtain ⟨r, e, _⟩ := pick_ok (K := K) ns hk hk2 hl hm
  simp [pk, e]
theorem pk_rng {ns : List Int} {k many : Int} (hl : ns.length ≤ 63) (hk : 0 ≤ k) (hk2 : k < 400) (hm : 0 < many) : 0 ≤ pk K ns k many ∧ pk K ns k many < many := by
  obtain ⟨r, e, h⟩ := pick_ok (K := K) ns hk hk2 hl hm
  simp [pk, e]
  exact h
theorem some_ok {ns : List Int} {at_ most ch : Int} (hl : ns.length ≤ 63) (ha : 0 ≤ at_) (h0 : 0 ≤ most) (hm : at_ + most ≤ 400) : ∃ l : List Int, m__law_some K [.scr ns, .int at_, .int most, .int ch] = .ok (iT l) ∧ l.Pairwise (· < ·) ∧ ∀ x ∈ l, 0 ≤ x ∧ x < most := by
  have g1 : -100000 ≤ most := by omega
  have g2 : most ≤ 100000 := by omega
  have g3 : most.toNat ≤ 100000 := by omega
  refine ⟨(rg 0 most).filter fun x => decide (pk K ns (at_ + x) 100 < ch), ?_, (rg_rise 0 _).filter _, fun x hx => mem_rg.mp (List.mem_filter.mp hx).1⟩
  simp [m__law_some, g__law_some, startE, g1, g2, g3, rangeD_eq, rg_len]
  rw [lc_filt (fun x => decide (pk K ns (at_ + x) 100 < ch)) (rg 0 most)]
  rotate_left
  · intro x hx
    have hx := mem_rg.mp hx
    refine ⟨_, rfl, ?_, by simp⟩
    simp [pk_eq (K := K) (k := at_ + x) (many := 100) hl (by omega) (by omega) (by decide)]
  simp [iT]

/-- a drawn scheme: sizes -/
structure DS4 (n : Int) (rows : List (List Int)) (most : Int) : Prop where
  n1 : 2 ≤ n
  n2 : n ≤ 8
  r1 : 1 ≤ rows.length
  r2 : (rows.length : Int) ≤ most
  ris : ∀ r ∈ rows, r.Pairwise (· < ·)
  rng : ∀ r ∈ rows, ∀ x ∈ r, 0 ≤ x ∧ x ≤ n - 1
  l1 : ∀ r ∈ rows, 1 ≤ r.length
  l2 : ∀ r ∈ rows, r.length ≤ 4
theorem DS4.vs {n : Int} {rows : List (List Int)} {most : Int} (d : DS4 n rows most) (h : most ≤ 10) : VS n rows :=
  ⟨by have := d.n1; omega, by have := d.n2; omega, d.r1, by have := d.r2; omega, d.ris, d.rng, d.l1, d.l2⟩
theorem cut_takeI (l : List D) {i : Int} (h : 0 ≤ i) : cutD l none (some i) = l.take i.toNat := by
  have := cut_take l i.toNat
  rwa [show ((i.toNat : Nat) : Int) = i by omega] at this
theorem noL_iT (l : List Int) : noL (iT l) = true := by
  show noLs (l.map D.int) = true
  induction l with
  | nil => rfl
  | cons x r ih => simp [noLs, noL, ih]
theorem scheme2_ok {ns : List Int} {at_ most : Int} (hl : ns.length ≤ 63) (ha : 0 ≤ at_) (hm : 1 ≤ most) (hm2 : at_ + 6 * most ≤ 380) : ∃ n rows, m__law_scheme K [.scr ns, .int at_, .int most] = .ok (sD n rows) ∧ DS4 n rows most := by
  have d1 := pk_eq (K := K) (k := at_) (many := 7) hl ha (by omega) (by decide)
  have r1 := pk_rng (K := K) (k := at_) (many := 7) hl ha (by omega) (by decide)
  have d2 := pk_eq (K := K) (k := at_ + 1) (many := most) hl (by omega) (by omega) (by omega)
  have r2 := pk_rng (K := K) (k := at_ + 1) (many := most) hl (by omega) (by omega) (by omega)
  generalize hsz : pk K ns at_ 7 = sz at d1 r1
  generalize hct : pk K ns (at_ + 1) most = ct at d2 r2
  have g1 : -100000 ≤ 1 + ct := by omega
  have g2 : 1 + ct ≤ 100000 := by omega
  have hmin : ∃ mn : Int, gMinD [.int (2 + sz), .int 6] = some (.int mn) ∧ 0 ≤ mn ∧ mn ≤ 6 ∧ mn ≤ 2 + sz := ⟨_, gMinD_2 _ _, by split <;> omega, by split <;> omega, by split <;> omega⟩
  obtain ⟨mn, emn, mn0, mn1, mn2⟩ := hmin
  simp [m__law_scheme, g__law_scheme, startE, d1, d2, g1, g2, rangeD_eq]
  obtain ⟨ρ', e, x5, x6, x7, rows, rfl, hlen, hP⟩ := for_ex (g := gSet 5) (b := b1__law_scheme K) D.int 1001 (fun i ρ => ∃ (x5 x6 x7 : DL.Slot) (rows : List (List Int)), ρ = [.val (.scr ns), .val (.int at_), .val (.int most), .val (.int (2 + sz)), .own (.lst (rows.map iT)), x5, x6, x7] ∧ rows.length = i ∧
      ∀ r ∈ rows, r.Pairwise (· < ·) ∧ (∀ x ∈ r, 0 ≤ x ∧ x ≤ (2 + sz) - 1) ∧ 1 ≤ r.length ∧ r.length ≤ 4) (rg 0 (1 + ct)) 0 [.val (.scr ns), .val (.int at_), .val (.int most), .val (.int (2 + sz)), .own (.lst []), .un, .un, .un] (by rw [rg_len]; omega) ⟨.un, .un, .un, [], rfl, rfl, by simp⟩ (by
    rintro i ρ k hi hk ⟨x5, x6, x7, rows, rfl, hlen, hP⟩
    have hk := mem_rg.mp hk
    obtain ⟨l, el, lr, lo⟩ := some_ok (K := K) (ns := ns) (at_ := at_ + 2 + 6 * k) (most := mn) (ch := 45) hl (by omega) mn0 (by omega)
    have d5 := pk_eq (K := K) (k := at_ + 2 + 6 * k + 5) (many := 4) hl (by omega) (by omega) (by decide)
    have r5 := pk_rng (K := K) (k := at_ + 2 + 6 * k + 5) (many := 4) hl (by omega) (by omega) (by decide)
    have d4 := pk_eq (K := K) (k := at_ + 2 + 6 * k + 4) (many := 2 + sz) hl (by omega) (by omega) (by omega)
    have r4 := pk_rng (K := K) (k := at_ + 2 + 6 * k + 4) (many := 2 + sz) hl (by omega) (by omega) (by omega)
    have d3 := pk_eq (K := K) (k := at_ + 2 + 6 * k + 3) (many := 14) hl (by omega) (by omega) (by decide)
    generalize hp5 : pk K ns (at_ + 2 + 6 * k + 5) 4 = p5 at d5 r5
    generalize hp4 : pk K ns (at_ + 2 + 6 * k + 4) (2 + sz) = p4 at d4 r4
    generalize hp3 : pk K ns (at_ + 2 + 6 * k + 3) 14 = p3 at d3
    have hln : rows.length < 100000 := by omega
    generalize hrow : (if l.take (1 + p5).toNat = [] then [p4] else l.take (1 + p5).toNat) = row1
    have hr1 : row1.Pairwise (· < ·) ∧ (∀ x ∈ row1, 0 ≤ x ∧ x ≤ (2 + sz) - 1) ∧ 1 ≤ row1.length ∧ row1.length ≤ 4 := by
      rw [← hrow]
      split
      · refine ⟨by simp, fun x hx => ?_, by simp, by simp⟩
        simp at hx
        subst hx
        omega
      · rename_i hne
        refine ⟨lr.sublist (List.take_sublist _ _), fun x hx => ?_, ?_, ?_⟩
        · have := lo x ((List.take_sublist _ _).subset hx)
          omega
        · cases q : l.take (1 + p5).toNat with
          | nil => exact absurd q hne
          | cons _ _ => simp
        · rw [List.length_take]
          omega
    generalize hnew : (if rows ≠ [] ∧ p3 = 0 then rows.getLast?.getD row1 else row1) = new
    have hnew2 : new.Pairwise (· < ·) ∧ (∀ x ∈ new, 0 ≤ x ∧ x ≤ (2 + sz) - 1) ∧ 1 ≤ new.length ∧ new.length ≤ 4 := by
      rw [← hnew]
      split
      · rename_i hc
        refine hP _ ?_
        obtain ⟨q, _⟩ := hc
        obtain ⟨d, z, rfl⟩ : ∃ d z, rows = d ++ [z] := ⟨_, _, (List.dropLast_concat_getLast q).symm⟩
        simp
      · exact hr1
    refine ⟨_, [.val (.scr ns), .val (.int at_), .val (.int most), .val (.int (2 + sz)), .own (.lst ((rows ++ [new]).map iT)), .val (.int k), .val (.int (at_ + 2 + 6 * k)), .val (iT row1)], rfl, ?_, ?_⟩
    · unfold b1__law_scheme
      rw [ev_seq]
      simp only [ev_set, ev_op2, ev_var, ev_c, List.set_cons_succ, List.set_cons_zero, List.getElem?_cons_succ, List.getElem?_cons_zero, R.bind_ok, gAdd_int, R.lift_some, gMul_l (show -(2 ^ 64) < (6 : Int) by decide) (show (6 : Int) < 2 ^ 64 by decide)]
      rw [ev_seq]
      simp only [ev_set, ev_sl, ev_call, ev_cons, ev_nil, ev_args, ev_op2, ev_var, ev_c, ev_part0, ev_part, List.set_cons_succ, List.set_cons_zero, List.getElem?_cons_succ, List.getElem?_cons_zero, R.bind_ok, gAdd_int, R.lift_some, emn, el, d5]
      simp only [iT, R.bind_ok, cut_takeI _ (show 0 ≤ 1 + p5 by omega)]
      rw [← List.map_take, show D.tup ((l.take (1 + p5).toNat).map D.int) = iT (l.take (1 + p5).toNat) from rfl]
      rw [ev_seq]
      have e7 : eIf (asB (op2 gNe (eVar 7) (eArgs gTupD aNil))) (eVar 7) (eArgs gTupD (aCons (eCall (m__law_pick K) (aCons (eVar 0) (aCons (op2 gAdd (eVar 6) (eC (.int 4))) (aCons (eVar 3) aNil)))) aNil)) [.val (.scr ns), .val (.int at_), .val (.int most), .val (.int (2 + sz)), .own (.lst (rows.map iT)), .val (.int k), .val (.int (at_ + 2 + 6 * k)), .val (iT (l.take (1 + p5).toNat))] = .ok (iT row1) := by
        by_cases c : l.take (1 + p5).toNat = []
        · rw [if_pos c] at hrow
          rw [← hrow]
          simp [show D.tup [] = iT [] from rfl, c, d4]
          rfl
        · rw [if_neg c] at hrow
          rw [← hrow]
          simp [show D.tup [] = iT [] from rfl, c]
      rw [ev_set, e7]
      simp only [List.set_cons_succ, List.set_cons_zero]
      have e8 : eIf (bAnd (asB (op2 gNe (eVar 4) (eArgs gLstD aNil))) (asB (op2 gEq (eCall (m__law_pick K) (aCons (eVar 0) (aCons (op2 gAdd (eVar 6) (eC (.int 3))) (aCons (eC (.int 14)) aNil)))) (eC (.int 0))))) (op2 gIx (eVar 4) (eNeg (eC (.int 1)))) (eVar 7) [.val (.scr ns), .val (.int at_), .val (.int most), .val (.int (2 + sz)), .val (.lst (rows.map iT)), .val (.int k), .val (.int (at_ + 2 + 6 * k)), .val (iT row1)] = .ok (iT new) := by
        by_cases c : rows = []
        · subst c
          simp at hnew
          rw [← hnew]
          simp
        · by_cases c3 : p3 = 0
          · rw [if_pos ⟨c, c3⟩] at hnew
            have hlast : gIx (.lst (rows.map iT)) (.int (-1)) = some (iT new) := by
              rw [← hnew]
              obtain ⟨d, z, rfl⟩ : ∃ d z, rows = d ++ [z] := ⟨_, _, (List.dropLast_concat_getLast c).symm⟩
              rw [gIx_lst, List.map_append, List.getLast?_concat]
              exact atI_last _ _
            simp [c, d3, c3, dok, hlast, -gIx_lst, doks_iTs 6 rows, doks]
          · rw [if_neg (fun z => c3 z.2)] at hnew
            rw [← hnew]
            simp [c, d3, c3, dok, doks_iTs 6 rows, doks]
      rw [ev_app]
      simp only [ev_eThaw, List.getElem?_cons_succ, List.getElem?_cons_zero, List.set_cons_succ, List.set_cons_zero, e8, noL_iT, if_true, List.length_map, hln]
      simp [iT]
    · refine ⟨_, _, _, _, rfl, by simp [hlen], fun r hr => ?_⟩
      rcases List.mem_append.mp hr with hr | hr
      · exact hP r hr
      · have hr := List.mem_singleton.mp hr
        subst hr
        exact hnew2)
  rw [e]
  rw [rg_len] at hlen
  refine ⟨2 + sz, rows, ?_, by omega, by omega, by omega, by omega, fun r hr => (hP r hr).1, fun r hr => (hP r hr).2.1, fun r hr => (hP r hr).2.2.1, fun r hr => (hP r hr).2.2.2⟩
  simp [sD]
end LW


set_option Elab.async false
set_option linter.all false
set_option maxRecDepth 100000
set_option maxHeartbeats 1000000
/-! Texts, plain: what join glues, split takes apart. -/
namespace TX
open PySem PySem.Builtin.Str PySem.StrLaws
def cs (x : Str) : List Nat := x.cps.toList
theorem cs_inj {x y : Str} (h : cs x = cs y) : x = y := by
  obtain ⟨a⟩ := x
  obtain ⟨b⟩ := y
  have h : a.toList = b.toList := h
  rw [Array.toList_inj.mp h]
theorem cs_len (x : Str) : (cs x).length = x.length := by simp [cs, Str.length]
theorem cs_app (x y : Str) : cs (x ++ y) = cs x ++ cs y := by
  show ((x ++ y).cps).toList = _
  rw [Str.cps_append]
  simp [cs]
def jl (s : List Nat) : List (List Nat) → List Nat
  | [] => []
  | [p] => p
  | p :: q :: r => p ++ (s ++ jl s (q :: r))
theorem cs_join (sep : Str) : ∀ ps : List Str, cs (Txt.join sep ps) = jl (cs sep) (ps.map cs) := fun ps => by
  show cs (glued sep ps) = _
  rw [glued_eq_join]
  induction ps with
  | nil => rfl
  | cons p r ih =>
    cases r with
    | nil => rfl
    | cons q r =>
      show cs (p ++ sep ++ Str.join sep (q :: r)) = _
      rw [cs_app, cs_app, ih, List.append_assoc]
      rfl
/-! ### occurrences -/
def ob (s sub : Str) (hi limit : Nat) (st : Array Nat × Nat) (i : Nat) : Array Nat × Nat :=
  if ((st.1.size < limit ∧ st.2 ≤ i) ∧ i + sub.length ≤ hi) ∧ subAt s sub i = true then (st.1.push i, i + sub.length) else st
theorem occ_fold (s sub : Str) (hi limit : Nat) : ∀ (l : List Nat) (st : Array Nat × Nat), (forIn l st (occBody s sub hi limit)).run = l.foldl (ob s sub hi limit) st
  | [], st => rfl
  | a :: l, st => by
    rw [List.forIn_cons, List.foldl_cons]
    unfold occBody ob
    split
    · exact occ_fold s sub hi limit l _
    · exact occ_fold s sub hi limit l _
theorem subAt_iff (s sub : Str) (i : Nat) : subAt s sub i = true ↔ ((cs s).drop i).take (cs sub).length = cs sub := by
  unfold subAt
  rw [beq_toList, beq_iff_eq, cs_len]
  have : (s.cps.extract i (i + sub.length)).toList = ((cs s).drop i).take sub.length := by
    rw [Array.toList_extract]
    simp [List.extract_eq_take_drop, cs]
  rw [this]
  exact Iff.rfl
theorem fold_no {s sub : Str} {hi limit : Nat} : ∀ {l : List Nat} {st : Array Nat × Nat}, (∀ i ∈ l, ¬ (((st.1.size < limit ∧ st.2 ≤ i) ∧ i + sub.length ≤ hi) ∧ subAt s sub i = true)) → l.foldl (ob s sub hi limit) st = st
  | [], st, _ => rfl
  | i :: l, st, h => by
    rw [List.foldl_cons]
    have : ob s sub hi limit st i = st := if_neg (h i (by simp))
    rw [this]
    exact fold_no fun j hj => h j (by simp [hj])
def cutsF (w : Nat) : Nat → List (List Nat) → List Nat
  | _, [] => []
  | _, [_] => []
  | a, p :: q :: r => (a + p.length) :: cutsF w (a + p.length + w) (q :: r)
theorem cuts_len (w : Nat) : ∀ (ps : List (List Nat)) (a : Nat), (cutsF w a ps).length = ps.length - 1
  | [], _ => rfl
  | [_], _ => rfl
  | p :: q :: r, a => by
    have := cuts_len w (q :: r) (a + p.length + w)
    simp only [cutsF, List.length_cons] at this ⊢
    omega
theorem range_split (a m n : Nat) : List.range' a (m + n) = List.range' a m ++ List.range' (a + m) n := by
  rw [← List.range'_append_1]
theorem jl_len (s : List Nat) : ∀ ps : List (List Nat), ps ≠ [] → ps.length ≤ (jl s ps).length + 1 ∨ s.length = 0
  | [], h => absurd rfl h
  | [p], _ => .inl (by simp)
  | p :: q :: r, _ => by
    rcases jl_len s (q :: r) (by simp) with h | h
    · by_cases z : s.length = 0
      · exact .inr z
      · left
        simp only [jl, List.length_append, List.length_cons] at h ⊢
        omega
    · exact .inr h
theorem fold_parts {x sep : Str} {c : Nat} {t : List Nat} (hs : cs sep = c :: t) {hi limit : Nat} (hhi : hi = (cs x).length) : ∀ (ps : List (List Nat)) (pre : List Nat) (found : Array Nat) (free : Nat), ps ≠ [] → (∀ p ∈ ps, c ∉ p) → cs x = pre ++ jl (cs sep) ps → free ≤ pre.length → found.size + ps.length ≤ limit →
    ∃ f', (List.range' pre.length (hi + 1 - pre.length)).foldl (ob x sep hi limit) (found, free) = ((found.toList ++ cutsF (cs sep).length pre.length ps).toArray, f')
  | [], _, _, _, h, _, _, _, _ => absurd rfl h
  | [p], pre, found, free, _, hp, hx, hf, hl => by
    refine ⟨free, ?_⟩
    have hlen : hi = pre.length + p.length := by rw [hhi, hx]; simp [jl]
    rw [fold_no]
    · simp [cutsF]
    · rintro i hi' ⟨⟨⟨_, _⟩, h3⟩, h4⟩
      have hi' := List.mem_range'_1.mp hi'
      have hsl : sep.length = t.length + 1 := by rw [← cs_len, hs]; rfl
      rw [subAt_iff, hs] at h4
      have e1 : ((cs x).drop i)[0]? = some c := by
        have := congrArg (·[0]?) h4
        simp only [List.getElem?_cons_zero] at this
        rw [List.getElem?_take] at this
        simpa using this
      rw [List.getElem?_drop, hx] at e1
      simp only [jl, Nat.add_zero] at e1
      rw [List.getElem?_append_right (by omega)] at e1
      exact hp p (by simp) (List.mem_of_getElem? e1)
  | p :: q :: r, pre, found, free, _, hp, hx, hf, hl => by
    have hsl : sep.length = t.length + 1 := by rw [← cs_len, hs]; rfl
    have hsl2 : (cs sep).length = t.length + 1 := by rw [hs]; rfl
    have hlen : hi = pre.length + (p.length + ((cs sep).length + (jl (cs sep) (q :: r)).length)) := by rw [hhi, hx]; simp [jl]
    have hx' : cs x = (pre ++ p ++ cs sep) ++ jl (cs sep) (q :: r) := by rw [hx]; simp [jl]
    obtain ⟨f', ih⟩ := fold_parts (limit := limit) hs hhi (q :: r) (pre ++ p ++ cs sep) (found.push (pre.length + p.length)) (pre.length + p.length + sep.length) (by simp) (fun z hz => hp z (by simp [hz])) hx' (by rw [List.length_append, List.length_append, hsl2]; omega) (by rw [Array.size_push]; simp only [List.length_cons] at hl ⊢; omega)
    have hpl : (pre ++ p ++ cs sep).length = pre.length + p.length + sep.length := by rw [List.length_append, List.length_append, cs_len]
    rw [hpl] at ih
    refine ⟨f', ?_⟩
    have er : hi + 1 - pre.length = p.length + (1 + (t.length + (hi + 1 - (pre.length + p.length + sep.length)))) := by omega
    have e0 : (List.range' pre.length p.length).foldl (ob x sep hi limit) (found, free) = (found, free) := by
      refine fold_no ?_
      rintro i hi' ⟨_, h4⟩
      have hi' := List.mem_range'_1.mp hi'
      rw [subAt_iff, hs] at h4
      have e1 : ((cs x).drop i)[0]? = some c := by
        have := congrArg (·[0]?) h4
        simp only [List.getElem?_cons_zero] at this
        rw [List.getElem?_take] at this
        simpa using this
      rw [List.getElem?_drop, hx] at e1
      simp only [jl, Nat.add_zero] at e1
      rw [List.getElem?_append_right (by omega), List.getElem?_append_left (by omega)] at e1
      exact hp p (by simp) (List.mem_of_getElem? e1)
    have e1 : (List.range' (pre.length + p.length) 1).foldl (ob x sep hi limit) (found, free) = (found.push (pre.length + p.length), pre.length + p.length + sep.length) := by
      show ob x sep hi limit (found, free) (pre.length + p.length) = _
      refine if_pos ⟨⟨⟨?_, ?_⟩, ?_⟩, ?_⟩
      · show found.size < limit
        simp only [List.length_cons] at hl
        omega
      · show free ≤ _
        omega
      · omega
      · rw [subAt_iff, hx, show pre ++ jl (cs sep) (p :: q :: r) = (pre ++ p) ++ (cs sep ++ jl (cs sep) (q :: r)) by simp [jl], show pre.length + p.length = (pre ++ p).length by simp, List.drop_left, List.take_left]
    have e3 : (List.range' (pre.length + p.length + 1) t.length).foldl (ob x sep hi limit) (found.push (pre.length + p.length), pre.length + p.length + sep.length) = (found.push (pre.length + p.length), pre.length + p.length + sep.length) := by
      refine fold_no ?_
      rintro i hi' ⟨⟨⟨_, h2⟩, _⟩, _⟩
      have hi' := List.mem_range'_1.mp hi'
      have h2 : pre.length + p.length + sep.length ≤ i := h2
      omega
    have e2 : pre.length + p.length + 1 + t.length = pre.length + p.length + sep.length := by omega
    rw [er, range_split, List.foldl_append, e0, range_split, List.foldl_append, e1, range_split, List.foldl_append, e3, e2, ih]
    simp [cutsF, cs_len]
theorem parts_eq {x : Str} {s : List Nat} : ∀ (ps : List (List Nat)) (pre : List Nat), ps ≠ [] → cs x = pre ++ jl s ps →
    ((pre.length :: (cutsF s.length pre.length ps).map (· + s.length)).zip (cutsF s.length pre.length ps ++ [(cs x).length])).map (fun q => cs (strSub x q.1 q.2)) = ps
  | [], _, h, _ => absurd rfl h
  | [p], pre, _, hx => by
    simp only [cutsF, List.map_nil, List.nil_append, List.zip_cons_cons, List.zip_nil_left, List.map_cons, List.cons.injEq, and_true]
    show (x.cps.extract _ _).toList = p
    rw [Array.toList_extract, List.extract_eq_take_drop]
    show ((cs x).drop pre.length).take _ = p
    rw [hx]
    simp [jl]
  | p :: q :: r, pre, _, hx => by
    have hx' : cs x = (pre ++ p ++ s) ++ jl s (q :: r) := by rw [hx]; simp [jl]
    have ih := parts_eq (q :: r) (pre ++ p ++ s) (by simp) hx'
    have hpl : (pre ++ p ++ s).length = pre.length + p.length + s.length := by simp; omega
    rw [hpl] at ih
    simp only [cutsF, List.map_cons, List.cons_append, List.zip_cons_cons, List.cons.injEq]
    refine ⟨?_, ih⟩
    show (x.cps.extract _ _).toList = p
    rw [Array.toList_extract, List.extract_eq_take_drop]
    show ((cs x).drop pre.length).take _ = p
    rw [hx]
    simp [jl]
theorem kind_one {x : Str} (h : ∀ c ∈ cs x, c < 256) : Builtin.Str.strKind x = 1 := by
  unfold Builtin.Str.strKind
  rw [if_pos]
  rw [Array.all_eq_true']
  intro c hc
  exact decide_eq_true (h c (by simpa [cs] using hc))
theorem split_join {sep : Str} {c : Nat} {t : List Nat} (hs : cs sep = c :: t) {ps : List Str} (hne : ps ≠ []) (hp : ∀ p ∈ ps, c ∉ cs p) (h1 : ∀ p ∈ ps, ∀ z ∈ cs p, z < 256) (h2 : ∀ z ∈ cs sep, z < 256) : Txt.split (Txt.join sep ps) sep = ps := by
  have hx := cs_join sep ps
  generalize Txt.join sep ps = x at hx
  have hall : ∀ z ∈ cs x, z < 256 := by
    rw [hx]
    clear hx hne hp
    induction ps with
    | nil => intro z hz; simp [jl] at hz
    | cons p r ih =>
      cases r with
      | nil => exact fun z hz => h1 p (by simp) z hz
      | cons q r =>
        intro z hz
        have hz : z ∈ cs p ++ (cs sep ++ jl (cs sep) ((q :: r).map cs)) := hz
        rcases List.mem_append.mp hz with hz | hz
        · exact h1 p (by simp) z hz
        · rcases List.mem_append.mp hz with hz | hz
          · exact h2 z hz
          · exact ih (fun p hp => h1 p (by simp [hp])) z hz
  have k1 := kind_one hall
  have k2 := kind_one h2
  have hm : ps.map cs ≠ [] := by simpa using hne
  have hp' : ∀ p ∈ ps.map cs, c ∉ p := fun p h => by
    obtain ⟨z, hz, rfl⟩ := List.mem_map.mp h
    exact hp z hz
  have hsl : sep.length = t.length + 1 := by rw [← cs_len, hs]; rfl
  have hjl := jl_len (cs sep) (ps.map cs) hm
  rw [← hx] at hjl
  have hcnt : ps.length ≤ x.length + 1 := by
    rcases hjl with h | h
    · rw [List.length_map, cs_len] at h; exact h
    · rw [hs] at h; simp at h
  obtain ⟨f', ef⟩ := fold_parts (x := x) hs (hi := x.length) (limit := x.length + 1) (cs_len x).symm (ps.map cs) [] #[] 0 hm hp' (by simpa using hx) (by simp) (by simp; omega)
  have eo : occurrences x sep 0 x.length (x.length + 1) = cutsF (cs sep).length 0 (ps.map cs) := by
    rw [occ_eq, occ_fold]
    simp only [List.length_nil, Nat.sub_zero] at ef ⊢
    rw [ef]
    simp
  have ep := parts_eq (x := x) (s := cs sep) (ps.map cs) [] hm (by simpa using hx)
  have epb : partsBetween x (cutsF (cs sep).length 0 (ps.map cs)) sep.length = ps := by
    unfold partsBetween
    simp only [List.length_nil] at ep
    rw [cs_len x, cs_len sep] at ep
    rw [cs_len sep]
    have : ((((0 :: (cutsF sep.length 0 (ps.map cs)).map (· + sep.length)).zip (cutsF sep.length 0 (ps.map cs) ++ [x.length])).map fun q => strSub x q.1 q.2).map cs) = ps.map cs := by
      rw [List.map_map]
      exact ep
    exact List.map_inj_right (fun a b h => cs_inj h) |>.mp this
  unfold Txt.split
  rw [eo, epb, k1, k2]
  by_cases hlt : x.length < sep.length
  · simp only [hlt, decide_true, Bool.true_or, if_true]
    cases ps with
    | nil => exact absurd rfl hne
    | cons p r =>
      cases r with
      | nil =>
        congr 1
        exact cs_inj hx
      | cons q r =>
        exfalso
        have := congrArg List.length hx
        rw [cs_len] at this
        simp only [List.map_cons, jl, List.length_append, cs_len] at this
        omega
  · simp only [hlt, decide_false, Bool.false_or, show ¬ (1 < 1) by decide, Bool.false_eq_true, if_false]
    cases ps with
    | nil => exact absurd rfl hne
    | cons p r =>
      cases r with
      | nil =>
        simp only [List.map_cons, List.map_nil, cutsF, List.isEmpty_nil, if_true]
        congr 1
        exact cs_inj hx
      | cons q r =>
        simp only [List.map_cons, cutsF, List.isEmpty_cons, Bool.false_eq_true, if_false]
end TX

set_option Elab.async false
set_option linter.all false
set_option maxRecDepth 100000
set_option maxHeartbeats 2000000
/-! law_k68_formats: schemes. -/
namespace LW
open PySem L2 DL TX
variable {K : PySem.W.Frag} {mg : Str → Option Value}
def dg (i : Int) : Str := ⟨#[48 + i.toNat]⟩
theorem cs_dg (i : Int) : cs (dg i) = [48 + i.toNat] := rfl
theorem ten {P : Int → Prop} (h : P 0 ∧ P 1 ∧ P 2 ∧ P 3 ∧ P 4 ∧ P 5 ∧ P 6 ∧ P 7 ∧ P 8 ∧ P 9) {i : Int} (h0 : 0 ≤ i) (h1 : i < 10) : P i := by
  obtain ⟨a0, a1, a2, a3, a4, a5, a6, a7, a8, a9⟩ := h
  have : i = 0 ∨ i = 1 ∨ i = 2 ∨ i = 3 ∨ i = 4 ∨ i = 5 ∨ i = 6 ∨ i = 7 ∨ i = 8 ∨ i = 9 := by omega
  rcases this with rfl | rfl | rfl | rfl | rfl | rfl | rfl | rfl | rfl | rfl <;> assumption
theorem gStr_dg {i : Int} (h0 : 0 ≤ i) (h1 : i < 10) : gStr [.int i] = some (.str (dg i)) :=
  ten (P := fun i => gStr [.int i] = some (.str (dg i))) ⟨by kernel_rfl, by kernel_rfl, by kernel_rfl, by kernel_rfl, by kernel_rfl, by kernel_rfl, by kernel_rfl, by kernel_rfl, by kernel_rfl, by kernel_rfl⟩ h0 h1
theorem read_dg {i : Int} (h0 : 0 ≤ i) (h1 : i < 10) : m_read_number K [.str (dg i)] = .ok (.int i) :=
  ten (P := fun i => m_read_number K [.str (dg i)] = .ok (.int i)) ⟨by kernel_rfl, by kernel_rfl, by kernel_rfl, by kernel_rfl, by kernel_rfl, by kernel_rfl, by kernel_rfl, by kernel_rfl, by kernel_rfl, by kernel_rfl⟩ h0 h1
def rowT (r : List Int) : Str := Txt.join " " (r.map dg)
def rowsT (rows : List (List Int)) : Str := Txt.join ", " (rows.map rowT)
def texT (n : Int) (rows : List (List Int)) : Str := dg n ++ ": " ++ rowsT rows
/-- a scheme of one-figure numbers -/
structure V1 (n : Int) (rows : List (List Int)) : Prop where
  v : VS n rows
  n9 : n ≤ 9
theorem V1.bit {n : Int} {rows : List (List Int)} (h : V1 n rows) {r : List Int} (hr : r ∈ rows) {x : Int} (hx : x ∈ r) : 0 ≤ x ∧ x < 10 := by
  have := h.v.rng r hr x hx
  have := h.n9
  omega
theorem mem_jl {s : List Nat} {z : Nat} : ∀ {ps : List (List Nat)}, z ∈ jl s ps → z ∈ s ∨ ∃ p ∈ ps, z ∈ p
  | [], h => by simp [jl] at h
  | [p], h => .inr ⟨p, by simp, h⟩
  | p :: q :: r, h => by
    have h : z ∈ p ++ (s ++ jl s (q :: r)) := h
    rcases List.mem_append.mp h with h | h
    · exact .inr ⟨p, by simp, h⟩
    · rcases List.mem_append.mp h with h | h
      · exact .inl h
      · rcases mem_jl h with h | ⟨p', hp, hz⟩
        · exact .inl h
        · exact .inr ⟨p', by simp only [List.mem_cons] at hp ⊢; exact .inr hp, hz⟩
theorem cs_sp : cs " " = [32] := by decide +kernel
theorem cs_com : cs ", " = [44, 32] := by decide +kernel
theorem cs_col : cs ": " = [58, 32] := by decide +kernel
theorem row_ch {n : Int} {rows : List (List Int)} (h : V1 n rows) {r : List Int} (hr : r ∈ rows) {z : Nat} (hz : z ∈ cs (rowT r)) : z = 32 ∨ (48 ≤ z ∧ z ≤ 57) := by
  unfold rowT at hz
  rw [cs_join, cs_sp] at hz
  rcases mem_jl hz with hz | ⟨p, hp, hz⟩
  · exact .inl (by simpa using hz)
  · rw [List.map_map] at hp
    obtain ⟨x, hx, rfl⟩ := List.mem_map.mp hp
    have := h.bit hr hx
    have hz : z ∈ [48 + x.toNat] := hz
    rw [List.mem_singleton] at hz
    omega
theorem rows_ch {n : Int} {rows : List (List Int)} (h : V1 n rows) {z : Nat} (hz : z ∈ cs (rowsT rows)) : z = 44 ∨ z = 32 ∨ (48 ≤ z ∧ z ≤ 57) := by
  unfold rowsT at hz
  rw [cs_join, cs_com] at hz
  rcases mem_jl hz with hz | ⟨p, hp, hz⟩
  · simp only [List.mem_cons, List.not_mem_nil, or_false] at hz
    omega
  · rw [List.map_map] at hp
    obtain ⟨r, hr, rfl⟩ := List.mem_map.mp hp
    exact .inr (row_ch h hr hz)
theorem dg_ch {n : Int} {rows : List (List Int)} (h : V1 n rows) {z : Nat} (hz : z ∈ cs (dg n)) : 48 ≤ z ∧ z ≤ 57 := by
  have h1 := h.v.n1
  have h2 := h.n9
  have hz : z ∈ [48 + n.toNat] := hz
  rw [List.mem_singleton] at hz
  omega
theorem tex_join (n : Int) (rows : List (List Int)) : texT n rows = Txt.join ": " [dg n, rowsT rows] := by
  refine cs_inj ?_
  rw [cs_join]
  unfold texT
  rw [cs_app, cs_app, List.append_assoc]
  rfl
theorem tex_ch {n : Int} {rows : List (List Int)} (h : V1 n rows) {z : Nat} (hz : z ∈ cs (texT n rows)) : z < 256 := by
  unfold texT at hz
  rw [cs_app, cs_app, cs_col] at hz
  simp only [List.mem_append, List.mem_cons, List.not_mem_nil, or_false] at hz
  rcases hz with (hz | hz) | hz
  · have := dg_ch h hz; omega
  · omega
  · have := rows_ch h hz; omega
theorem split_col {n : Int} {rows : List (List Int)} (h : V1 n rows) : Txt.split (texT n rows) ": " = [dg n, rowsT rows] := by
  rw [tex_join]
  refine split_join (c := 58) (t := [32]) cs_col (by simp) (fun p hp hc => ?_) (fun p hp z hz => ?_) (by rw [cs_col]; simp)
  · simp only [List.mem_cons, List.not_mem_nil, or_false] at hp
    rcases hp with rfl | rfl
    · have := dg_ch h hc; omega
    · have := rows_ch h hc; omega
  · simp only [List.mem_cons, List.not_mem_nil, or_false] at hp
    rcases hp with rfl | rfl
    · have := dg_ch h hz; omega
    · have := rows_ch h hz; omega
theorem split_com {n : Int} {rows : List (List Int)} (h : V1 n rows) : Txt.split (rowsT rows) ", " = rows.map rowT := by
  have hr1 := h.v.r1
  unfold rowsT
  refine split_join (c := 44) (t := [32]) cs_com ?_ (fun p hp hc => ?_) (fun p hp z hz => ?_) (by rw [cs_com]; simp)
  · intro z
    rw [List.map_eq_nil_iff] at z
    rw [z] at hr1
    simp at hr1
  · obtain ⟨r, hr, rfl⟩ := List.mem_map.mp hp
    have := row_ch h hr hc
    omega
  · obtain ⟨r, hr, rfl⟩ := List.mem_map.mp hp
    have := row_ch h hr hz
    omega
theorem split_sp {n : Int} {rows : List (List Int)} (h : V1 n rows) {r : List Int} (hr : r ∈ rows) : Txt.split (rowT r) " " = r.map dg := by
  have hr1 := h.v.l1 r hr
  unfold rowT
  refine split_join (c := 32) (t := []) cs_sp ?_ (fun p hp hc => ?_) (fun p hp z hz => ?_) (by rw [cs_sp]; simp)
  · intro z
    rw [List.map_eq_nil_iff] at z
    rw [z] at hr1
    simp at hr1
  · obtain ⟨x, hx, rfl⟩ := List.mem_map.mp hp
    have hc : 32 ∈ [48 + x.toNat] := hc
    rw [List.mem_singleton] at hc
    omega
  · obtain ⟨x, hx, rfl⟩ := List.mem_map.mp hp
    have := h.bit hr hx
    have hz : z ∈ [48 + x.toNat] := hz
    rw [List.mem_singleton] at hz
    omega
theorem len_sum {α : Type} (f : α → Str) (B : Nat) : ∀ l : List α, (∀ a ∈ l, (f a).length ≤ B) → ((l.map f).map (·.length)).sum ≤ l.length * B
  | [], _ => by simp
  | a :: r, h => by
    have h1 := h a (by simp)
    have h2 := len_sum f B r fun b hb => h b (by simp [hb])
    simp only [List.map_cons, List.sum_cons, List.length_cons, Nat.add_mul, Nat.one_mul]
    omega
theorem len_join (sep : Str) (ps : List Str) : (Txt.join sep ps).length ≤ (ps.map (·.length)).sum + ps.length * sep.length := by
  show (Builtin.Str.glued sep ps).length ≤ _
  rw [StrLaws.glued_eq_join]
  exact StrLaws.join_length_le sep ps
theorem row_len {n : Int} {rows : List (List Int)} (h : V1 n rows) {r : List Int} (hr : r ∈ rows) : (rowT r).length ≤ 8 := by
  have h4 := h.v.l2 r hr
  have h1 := len_join " " (r.map dg)
  have h2 := len_sum dg 1 r fun a _ => Nat.le_refl 1
  have h3 : (" " : Str).length = 1 := by decide +kernel
  rw [h3, List.length_map] at h1
  show (Txt.join _ _).length ≤ 8
  omega
theorem rows_sum {n : Int} {rows : List (List Int)} (h : V1 n rows) : ((rows.map rowT).map (·.length)).sum + (rows.map rowT).length * (", " : Str).length ≤ 100 := by
  have h2 := len_sum rowT 8 rows fun r hr => row_len h hr
  have h3 : (", " : Str).length = 2 := by decide +kernel
  have h4 := h.v.r2
  rw [h3, List.length_map]
  omega
theorem row_join {n : Int} {rows : List (List Int)} (h : V1 n rows) {r : List Int} (hr : r ∈ rows) : gJoin " " (.lst (r.map fun x => .str (dg x))) = some (.str (rowT r)) := by
  have h4 := h.v.l2 r hr
  have h2 := len_sum dg 1 r fun a _ => Nat.le_refl 1
  have h3 : (" " : Str).length = 1 := by decide +kernel
  unfold gJoin
  simp only [asStrs_mapf]
  rw [if_pos]
  · rfl
  · rw [h3, List.length_map]
    omega
theorem rows_join {n : Int} {rows : List (List Int)} (h : V1 n rows) : gJoin ", " (.lst (rows.map fun r => .str (rowT r))) = some (.str (rowsT rows)) := by
  have h1 := rows_sum h
  unfold gJoin
  simp only [asStrs_mapf]
  rw [if_pos]
  · rfl
  · omega
theorem tex_len {n : Int} {rows : List (List Int)} (h : V1 n rows) : (texT n rows).length ≤ 200 := by
  have h1 := len_join ", " (rows.map rowT)
  have h2 := rows_sum h
  have h3 : (rowsT rows).length ≤ 100 := Nat.le_trans h1 h2
  have h4 : (": " : Str).length = 2 := by decide +kernel
  have h5 : (dg n).length = 1 := rfl
  unfold texT
  rw [Str.length_append, Str.length_append]
  omega
theorem head_add {n : Int} {rows : List (List Int)} (h : V1 n rows) : gAdd (.str (dg n ++ ": ")) (.str (rowsT rows)) = some (.str (texT n rows)) := by
  have := tex_len h
  unfold texT at this
  rw [Str.length_append] at this
  unfold gAdd
  simp only []
  rw [if_pos (by omega)]
  rfl
theorem m1_join {sep z : Str} {f : DL.Env → R D} {ρ : DL.Env} {l : List D} (hf : f ρ = .ok (.lst l)) (hj : gJoin sep (.lst l) = some (.str z)) : eM1 gJoin (eC (.str sep)) f ρ = .ok (.str z) := by
  simp only [eM1, ev_c, R.bind_ok, hf, hj, R.lift_some]
theorem scheme_text_eq {n : Int} {rows : List (List Int)} (h : V1 n rows) : m_scheme_text K [sD n rows] = .ok (.str (texT n rows)) := by
  have n1 := h.v.n1
  have n9 := h.n9
  have r2 := h.v.r2
  have e1 : oLc (iSeqD (op2 gIx (eVar 0) (eC (.int 1)))) (gSet 2) bYes (eM1 gJoin (eC (.str " ")) (eLst (oLc (iSeqD (eVar 2)) (gSet 3) bYes (eArgs gStr (aCons (eVar 3) aNil)) [3]))) [2] [.val (sD n rows), .un, .un, .un] = .ok (.lst (rows.map fun r => .str (rowT r))) := by
    simp [sD, show rows.length ≤ 100000 by omega]
    rw [lc_map (f := iT) (fun r => .str (rowT r)) rows]
    rotate_left
    · intro r hr
      have h4 := h.v.l2 r hr
      refine ⟨_, rfl, rfl, ?_⟩
      have ei : eLst (oLc (iSeqD (eVar 2)) (gSet 3) bYes (eArgs gStr (aCons (eVar 3) aNil)) [3]) [.val (sD n rows), .un, .val (iT r), .un] = .ok (.lst (r.map fun x => .str (dg x))) := by
        simp [show r.length ≤ 100000 by omega]
        rw [lc_map (f := D.int) (fun x => .str (dg x)) r]
        rotate_left
        · intro x hx
          have := h.bit hr hx
          exact ⟨_, rfl, rfl, by simp [gStr_dg this.1 this.2]⟩
        simp
      exact m1_join ei (row_join h hr)
    simp
  have e2 : op2 gAdd (op2 gAdd (eArgs gStr (aCons (op2 gIx (eVar 0) (eC (.int 0))) aNil)) (eC (.str ": "))) (eM1 gJoin (eC (.str ", ")) (eVar 1)) [.val (sD n rows), .val (.lst (rows.map fun r => .str (rowT r))), .un, .un] = .ok (.str (texT n rows)) := by
    have ea : op2 gAdd (eArgs gStr (aCons (op2 gIx (eVar 0) (eC (.int 0))) aNil)) (eC (.str ": ")) [.val (sD n rows), .val (.lst (rows.map fun r => .str (rowT r))), .un, .un] = .ok (.str (dg n ++ ": ")) := by
      have eg : gAdd (.str (dg n)) (.str ": ") = some (.str (dg n ++ ": ")) := by
        unfold gAdd
        simp only []
        rw [if_pos]
        have h4 : (": " : Str).length = 2 := by decide +kernel
        have h5 : (dg n).length = 1 := rfl
        omega
      simp [sD, gStr_dg (show 0 ≤ n by omega) (show n < 10 by omega), eg]
    have eb := m1_join (f := eVar 1) (ρ := [.val (sD n rows), .val (.lst (rows.map fun r => .str (rowT r))), .un, .un]) rfl (rows_join h)
    rw [ev_op2, ea, eb]
    simp only [R.bind_ok, head_add h, R.lift_some]
  simp only [m_scheme_text, g_scheme_text, fnD_ev, startE, List.map_cons, List.map_nil, List.length_cons, List.length_nil, List.cons_append, List.nil_append, List.replicate]
  rw [ev_seq, ev_own, e1]
  simp only [List.set_cons_succ, List.set_cons_zero, ev_frz, List.getElem?_cons_succ, List.getElem?_cons_zero, owD_lst, ev_ret, e2]
theorem strOk_tex {n : Int} {rows : List (List Int)} (h : V1 n rows) : PyData.strOk (texT n rows) = true := by
  unfold PyData.strOk
  rw [Array.all_eq_true']
  intro c hc
  have := tex_ch h (z := c) (by simpa [cs] using hc)
  exact decide_eq_true (by omega)
theorem m1_split {a b : Str} {f : DL.Env → R D} {ρ : DL.Env} (hf : f ρ = .ok (.str a)) (hb : (b.length == 0) = false) (ha : a.length ≤ 90000) : eM1 gSplit f (eC (.str b)) ρ = .ok (.lst ((Txt.split a b).map D.str)) := by
  simp only [eM1, hf, R.bind_ok, ev_c, gSplit, hb, Bool.not_false, Bool.true_and, decide_eq_true ha, if_true, R.lift_some]
theorem parse_scheme_eq {n : Int} {rows : List (List Int)} (h : V1 n rows) : m_parse_scheme K [.str (texT n rows)] = .ok (sD n rows) := by
  have n1 := h.v.n1
  have n9 := h.n9
  have r1 := h.v.r1
  have r2 := h.v.r2
  have hl := tex_len h
  have b1 : ((": " : Str).length == 0) = false := by decide +kernel
  have b2 : ((", " : Str).length == 0) = false := by decide +kernel
  have b3 : ((" " : Str).length == 0) = false := by decide +kernel
  have lr : (rowsT rows).length ≤ 100 := Nat.le_trans (len_join ", " (rows.map rowT)) (rows_sum h)
  have e0 : sIf (bNot (asB (eArgs gIsi (aCons (eVar 0) (aCons (eC (.ty "str")) aNil))))) (sRaise (He.ga K "ParseError")) sNil [.val (.str (texT n rows)), .un, .un, .un, .un, .un] = some (.nx [.val (.str (texT n rows)), .un, .un, .un, .un, .un]) := by
    have eI : gIsi [.str (texT n rows), .ty "str"] = some (.bl true) := rfl
    simp [eI]
  have e1 : sSet 1 (eM1 gSplit (eVar 0) (eC (.str ": "))) [.val (.str (texT n rows)), .un, .un, .un, .un, .un] = some (.nx [.val (.str (texT n rows)), .val (.lst [.str (dg n), .str (rowsT rows)]), .un, .un, .un, .un]) := by
    rw [ev_set, m1_split (f := eVar 0) (a := texT n rows) rfl b1 (by omega), split_col h]
    rfl
  have eR : oLc (iSeqD (eM1 gSplit (op2 gIx (eVar 1) (eNeg (eC (.int 1)))) (eC (.str ", ")))) (gSet 4) bYes (eArgs gTuple (aCons (eLst (oLc (iSeqD (eM1 gSplit (eVar 4) (eC (.str " ")))) (gSet 5) bYes (eCall (m_read_number K) (aCons (eVar 5) aNil)) [5])) aNil)) [4] [.val (.str (texT n rows)), .val (.lst [.str (dg n), .str (rowsT rows)]), .un, .un, .un, .un] = .ok (.lst (rows.map iT)) := by
    have ei : iSeqD (eM1 gSplit (op2 gIx (eVar 1) (eNeg (eC (.int 1)))) (eC (.str ", "))) [.val (.str (texT n rows)), .val (.lst [.str (dg n), .str (rowsT rows)]), .un, .un, .un, .un] = .ok (rows.map fun r => .str (rowT r)) := by
      have := m1_split (f := op2 gIx (eVar 1) (eNeg (eC (.int 1)))) (ρ := [.val (.str (texT n rows)), .val (.lst [.str (dg n), .str (rowsT rows)]), .un, .un, .un, .un]) (a := rowsT rows) (b := ", ") rfl b2 (by omega)
      rw [split_com h, List.map_map] at this
      rw [ev_iSeq, this]
      rfl
    unfold oLc
    rw [ei]
    simp only [R.bind_ok]
    rw [lc_map (f := fun r => D.str (rowT r)) iT rows]
    rotate_left
    · intro r hr
      have l4 := h.v.l2 r hr
      have rl := row_len h hr
      refine ⟨_, rfl, rfl, ?_⟩
      have ew : eLst (oLc (iSeqD (eM1 gSplit (eVar 4) (eC (.str " ")))) (gSet 5) bYes (eCall (m_read_number K) (aCons (eVar 5) aNil)) [5]) [.val (.str (texT n rows)), .val (.lst [.str (dg n), .str (rowsT rows)]), .un, .un, .val (.str (rowT r)), .un] = .ok (iL r) := by
        have ei2 : iSeqD (eM1 gSplit (eVar 4) (eC (.str " "))) [.val (.str (texT n rows)), .val (.lst [.str (dg n), .str (rowsT rows)]), .un, .un, .val (.str (rowT r)), .un] = .ok (r.map fun x => .str (dg x)) := by
          have := m1_split (f := eVar 4) (ρ := [.val (.str (texT n rows)), .val (.lst [.str (dg n), .str (rowsT rows)]), .un, .un, .val (.str (rowT r)), .un]) (a := rowT r) (b := " ") rfl b3 (by omega)
          rw [split_sp h hr, List.map_map] at this
          rw [ev_iSeq, this]
          rfl
        rw [ev_lst]
        unfold oLc
        rw [ei2]
        simp only [R.bind_ok]
        rw [lc_map (f := fun x => D.str (dg x)) D.int r]
        rotate_left
        · intro x hx
          have := h.bit hr hx
          exact ⟨_, rfl, rfl, by simp [read_dg this.1 this.2]⟩
        simp [show r.length ≤ 100000 by omega]
        rfl
      have : eArgs gTuple (aCons (eLst (oLc (iSeqD (eM1 gSplit (eVar 4) (eC (.str " ")))) (gSet 5) bYes (eCall (m_read_number K) (aCons (eVar 5) aNil)) [5])) aNil) [.val (.str (texT n rows)), .val (.lst [.str (dg n), .str (rowsT rows)]), .un, .un, .val (.str (rowT r)), .un] = .ok (iT r) := by
        rw [ev_args, ev_cons, ew]
        rfl
      exact this
    simp [show rows.length ≤ 100000 by omega]
  have e3 : sSet 3 (eArgs gTupD (aCons (eCall (m_read_number K) (aCons (op2 gIx (eVar 1) (eC (.int 0))) aNil)) (aCons (eArgs gTuple (aCons (eVar 2) aNil)) aNil))) [.val (.str (texT n rows)), .val (.lst [.str (dg n), .str (rowsT rows)]), .val (.lst (rows.map iT)), .un, .un, .un] = some (.nx [.val (.str (texT n rows)), .val (.lst [.str (dg n), .str (rowsT rows)]), .val (.lst (rows.map iT)), .val (sD n rows), .un, .un]) := by
    have eix : gIx (.lst [.str (dg n), .str (rowsT rows)]) (.int 0) = some (.str (dg n)) := rfl
    simp only [ev_set, ev_args, ev_cons, ev_nil, ev_call, ev_op2, ev_var, ev_c, List.getElem?_cons_succ, List.getElem?_cons_zero, R.bind_ok, eix, R.lift_some, read_dg (K := K) (show 0 ≤ n by omega) (show n < 10 by omega), gTuple_lst]
    rfl
  have e4 : sIf (bOr (bNot (asB (eCall (m_is_scheme K) (aCons (eVar 3) aNil)))) (asB (op2 gNe (eCall (m_scheme_text K) (aCons (eVar 3) aNil)) (eVar 0)))) (sRaise (He.ga K "ParseError")) sNil [.val (.str (texT n rows)), .val (.lst [.str (dg n), .str (rowsT rows)]), .val (.lst (rows.map iT)), .val (sD n rows), .un, .un] = some (.nx [.val (.str (texT n rows)), .val (.lst [.str (dg n), .str (rowsT rows)]), .val (.lst (rows.map iT)), .val (sD n rows), .un, .un]) := by
    have en : gNe (.str (texT n rows)) (.str (texT n rows)) = some (.bl false) := by
      unfold gNe
      simp [dok, strOk_tex h, eqb]
    simp only [ev_sif, ev_bOr, ev_bNot, ev_asB, ev_op2, ev_call, ev_cons, ev_nil, ev_var, List.getElem?_cons_succ, List.getElem?_cons_zero, R.bind_ok, is_scheme_ok h.v, scheme_text_eq h, en, R.lift_some, Bool.not_true, Bool.false_eq_true, if_false, ev_sNil]
  simp only [m_parse_scheme, g_parse_scheme, fnD_ev, startE, List.map_cons, List.map_nil, List.length_cons, List.length_nil, List.cons_append, List.nil_append, List.replicate]
  rw [ev_seq, e0]
  simp only []
  rw [ev_seq, e1]
  simp only []
  rw [ev_seq, ev_own, eR]
  simp only [List.set_cons_succ, List.set_cons_zero, ev_frz, List.getElem?_cons_succ, List.getElem?_cons_zero, owD_lst]
  rw [ev_seq, e3]
  simp only []
  rw [ev_seq, e4]
  simp only [ev_ret, ev_var, List.getElem?_cons_succ, List.getElem?_cons_zero]
end LW

set_option Elab.async false
set_option linter.all false
set_option maxRecDepth 100000
set_option maxHeartbeats 2000000
/-! law_k68_formats: filters. -/
namespace LW
open PySem L2 DL TX
variable {K : PySem.W.Frag} {mg : Str → Option Value}
def sgC (n : Int) (bits : List Int) : List Nat := (rg 0 n).map fun b => if b ∈ bits then 35 else 46
def sg (n : Int) (bits : List Int) : Str := ⟨(sgC n bits).toArray⟩
theorem cs_sg (n : Int) (bits : List Int) : cs (sg n bits) = sgC n bits := by simp [cs, sg]
theorem sg_len {n : Int} (bits : List Int) (h : 0 ≤ n) : ((sg n bits).length : Int) = n := by
  rw [← TX.cs_len, cs_sg, sgC, List.length_map, rg_len]
  omega
theorem sg_ch {n : Int} {bits : List Int} {c : Nat} (h : c ∈ cs (sg n bits)) : c = 35 ∨ c = 46 := by
  rw [cs_sg] at h
  obtain ⟨b, _, rfl⟩ := List.mem_map.mp h
  split
  · exact .inl rfl
  · exact .inr rfl
theorem hash_eq : ("#" : Str) = ⟨#[35]⟩ := by decide +kernel
theorem dot_eq : ("." : Str) = ⟨#[46]⟩ := by decide +kernel
theorem jl_nil : ∀ ps : List (List Nat), jl [] ps = ps.flatten
  | [] => rfl
  | [p] => by simp [jl]
  | p :: q :: r => by
    have := jl_nil (q :: r)
    simp only [jl, List.nil_append, this, List.flatten_cons]
theorem sg_join {n : Int} (bits : List Int) (h0 : 0 ≤ n) (h : n ≤ 1000) : gJoin "" (.lst ((rg 0 n).map fun b => .str (if b ∈ bits then "#" else "."))) = some (.str (sg n bits)) := by
  have e0 : ("" : Str).length = 0 := by decide +kernel
  have e1 : cs ("" : Str) = [] := by decide +kernel
  have hs := len_sum (fun b : Int => if b ∈ bits then ("#" : Str) else ".") 1 (rg 0 n) fun b _ => by
    split
    · exact Nat.le_of_eq (by decide +kernel)
    · exact Nat.le_of_eq (by decide +kernel)
  unfold gJoin
  simp only [asStrs_mapf]
  rw [if_pos]
  · congr 2
    refine cs_inj ?_
    rw [cs_join, e1, jl_nil, cs_sg, List.map_map, sgC]
    induction rg 0 n with
    | nil => rfl
    | cons b r ih =>
      rw [List.map_cons, List.flatten_cons, ih, List.map_cons]
      by_cases c : b ∈ bits
      · simp only [Function.comp, if_pos c]
        rw [hash_eq]
        rfl
      · simp only [Function.comp, if_neg c]
        rw [dot_eq]
        rfl
  · rw [e0, rg_len] at *
    simp only [Nat.mul_zero, Nat.add_zero, Nat.mul_one] at *
    omega
theorem format_filter_eq {n : Int} {rows : List (List Int)} {bits : List Int} (v : VS n rows) (f : Fl n bits) : m_format_filter K [sD n rows, iT bits] = .ok (.str (sg n bits)) := by
  have n1 := v.n1
  have n2 := v.n2
  have ef := check_filter_ok (K := K) v f.ris f.rng
  have ei : eLst (oLc (iRange (aCons (op2 gIx (eVar 0) (eC (.int 0))) aNil)) (gSet 2) bYes (eIf (asB (op2 gIn (eVar 2) (eVar 1))) (eC (.str "#")) (eC (.str "."))) [2]) [.val (sD n rows), .val (iT bits), .un] = .ok (.lst ((rg 0 n).map fun b => .str (if b ∈ bits then "#" else "."))) := by
    simp [show -100000 ≤ n by omega, show n ≤ 100000 by omega, show n.toNat ≤ 100000 by omega, rangeD_eq, rg_len]
    rw [lc_map (f := D.int) (fun b => .str (if b ∈ bits then "#" else ".")) (rg 0 n)]
    rotate_left
    · intro b _
      refine ⟨_, rfl, rfl, ?_⟩
      by_cases c : b ∈ bits <;> simp [c]
    simp
  simp only [m_format_filter, g_format_filter, fnD_ev, startE, List.map_cons, List.map_nil, List.length_cons, List.length_nil, List.cons_append, List.nil_append, List.replicate]
  simp only [ev_seq, ev_drop, ev_call, ev_cons, ev_nil, ev_var, List.getElem?_cons_succ, List.getElem?_cons_zero, R.bind_ok, check_scheme_ok v, ef, ev_ret, m1_join ei (sg_join bits (by omega) (by omega))]
theorem gIn_signs (c : Nat) : gIn (.str ⟨#[c]⟩) (.tup [.str "#", .str "."]) = some (.bl (decide (c = 35 ∨ c = 46))) := by
  have h1 : (({ cps := #[35] } : Str) == ⟨#[c]⟩) = decide (c = 35) := by
    rw [Bool.eq_iff_iff, beq_iff_eq, decide_eq_true_eq]
    constructor
    · intro h
      have := congrArg Str.cps h
      simp at this
      omega
    · intro h
      rw [h]
  have h2 : (({ cps := #[46] } : Str) == ⟨#[c]⟩) = decide (c = 46) := by
    rw [Bool.eq_iff_iff, beq_iff_eq, decide_eq_true_eq]
    constructor
    · intro h
      have := congrArg Str.cps h
      simp at this
      omega
    · intro h
      rw [h]
  have e : gIn (.str ⟨#[c]⟩) (.tup [.str "#", .str "."]) = some (.bl (memD (.str ⟨#[c]⟩) [.str "#", .str "."])) := rfl
  rw [e]
  congr 2
  show ((("#" : Str) == ⟨#[c]⟩) || ((("." : Str) == ⟨#[c]⟩) || false)) = _
  rw [hash_eq, dot_eq, h1, h2]
  by_cases a : c = 35 <;> by_cases b : c = 46 <;> simp [a, b]
theorem gEq_hash (c : Nat) (hc : c < 256) : gEq (.str ⟨#[c]⟩) (.str "#") = some (.bl (decide (c = 35))) := by
  have ok1 : PyData.strOk ⟨#[c]⟩ = true := by
    unfold PyData.strOk
    simp
    omega
  have ok2 : PyData.strOk ("#" : Str) = true := by decide +kernel
  unfold gEq
  simp only [dok, ok1, ok2, Bool.and_self, if_true, eqb]
  congr 2
  rw [hash_eq, Bool.eq_iff_iff, beq_iff_eq, decide_eq_true_eq]
  constructor
  · intro h
    have := congrArg Str.cps h
    simpa using this
  · intro h
    rw [h]
/-- a text that is no filter's format -/
theorem pf_bad {n : Int} {rows : List (List Int)} {z : Str} (v : VS n rows) (hz : z.length ≤ 1000) (hb : (z.length : Int) ≠ n ∨ ∃ c ∈ cs z, c ≠ 35 ∧ c ≠ 46) : m_parse_filter K [sD n rows, .str z] = .exc (He.ga K "ParseError") := by
  have eI : gIsi [.str z, .ty "str"] = some (.bl true) := rfl
  have eL : gLen [.str z] = some (.int (z.length : Nat)) := if_pos (by omega)
  simp only [m_parse_filter, g_parse_filter, fnD_ev, startE, List.map_cons, List.map_nil, List.length_cons, List.length_nil, List.cons_append, List.nil_append, List.replicate]
  simp only [ev_seq, ev_drop, ev_call, ev_cons, ev_nil, ev_var, List.getElem?_cons_succ, List.getElem?_cons_zero, R.bind_ok, check_scheme_ok v]
  have ea : eArgs gAll (aCons (eLst (oLc (iStrD (eVar 1)) (gSet 3) bYes (op2 gIn (eVar 3) (eArgs gTupD (aCons (eC (.str "#")) (aCons (eC (.str ".")) aNil)))) [3])) aNil) [.val (sD n rows), .val (.str z), .un, .un] = .ok (.bl ((cs z).all fun c => decide (c = 35 ∨ c = 46))) := by
    have eit : iStrD (eVar 1) [.val (sD n rows), .val (.str z), .un, .un] = .ok ((cs z).map fun c => .str ⟨#[c]⟩) := rfl
    have hl : ((cs z).map fun c => D.str ⟨#[c]⟩).length ≤ 100000 := by rw [List.length_map, TX.cs_len]; omega
    rw [ev_args, ev_cons, ev_lst]
    unfold oLc
    rw [eit]
    simp only [R.bind_ok]
    rw [lc_map (f := fun c => D.str ⟨#[c]⟩) (fun c => .bl (decide (c = 35 ∨ c = 46))) (cs z)]
    rotate_left
    · intro c _
      exact ⟨_, rfl, rfl, by simp [gIn_signs]⟩
    simp [TX.cs_len, show z.length ≤ 100000 by omega]
  have en : gNe (.int (z.length : Nat)) (.int n) = some (.bl (!decide ((z.length : Int) = n))) := by
    unfold gNe
    simp [dok, eqb]
    rfl
  have eix : op2 gIx (eVar 0) (eC (.int 0)) [.val (sD n rows), .val (.str z), .un, .un] = .ok (.int n) := by simp
  have el : eArgs gLen (aCons (eVar 1) aNil) [.val (sD n rows), .val (.str z), .un, .un] = .ok (.int (z.length : Nat)) := by
    simp only [ev_args, ev_cons, ev_nil, ev_var, List.getElem?_cons_succ, List.getElem?_cons_zero, R.bind_ok, eL, R.lift_some]
  have en2 : op2 gNe (eArgs gLen (aCons (eVar 1) aNil)) (op2 gIx (eVar 0) (eC (.int 0))) [.val (sD n rows), .val (.str z), .un, .un] = .ok (.bl (!decide ((z.length : Int) = n))) := by
    rw [ev_op2, el, eix]
    simp only [R.bind_ok, en, R.lift_some]
  have eis : eArgs gIsi (aCons (eVar 1) (aCons (eC (.ty "str")) aNil)) [.val (sD n rows), .val (.str z), .un, .un] = .ok (.bl true) := by
    simp only [ev_args, ev_cons, ev_nil, ev_var, ev_c, List.getElem?_cons_succ, List.getElem?_cons_zero, R.bind_ok, eI, R.lift_some]
  rw [ev_sif, ev_bOr, ev_bNot, ev_asB, eis]
  simp only [R.bind_ok, Bool.not_true, Bool.false_eq_true, if_false]
  rw [ev_bOr, ev_asB, en2]
  simp only [R.bind_ok]
  by_cases c : (z.length : Int) = n
  · have hb : ∃ c ∈ cs z, c ≠ 35 ∧ c ≠ 46 := hb.resolve_left fun q => q c
    obtain ⟨d, hd, d1, d2⟩ := hb
    have hf : (cs z).all (fun c => decide (c = 35 ∨ c = 46)) = false := by
      rw [← Bool.not_eq_true, List.all_eq_true]
      intro q
      have := q d hd
      simp [d1, d2] at this
    rw [ev_bNot, ev_asB, ea, hf]
    simp [c]
  · simp [c]
theorem pf_other {n : Int} {rows : List (List Int)} {d : D} (v : VS n rows) (h : gIsi [d, .ty "str"] = some (.bl false)) : m_parse_filter K [sD n rows, d] = .exc (He.ga K "ParseError") := by
  simp only [m_parse_filter, g_parse_filter, fnD_ev, startE, List.map_cons, List.map_nil, List.length_cons, List.length_nil, List.cons_append, List.nil_append, List.replicate]
  simp only [ev_seq, ev_drop, ev_call, ev_cons, ev_nil, ev_var, ev_c, ev_args, ev_sif, ev_bOr, ev_bNot, ev_asB, List.getElem?_cons_succ, List.getElem?_cons_zero, R.bind_ok, check_scheme_ok v, h, R.lift_some, Bool.not_false, if_true]
  simp
theorem filt_self {n : Int} {bits : List Int} (f : Fl n bits) : (rg 0 n).filter (fun b => decide (b ∈ bits)) = bits := by
  have hr : ((rg 0 n).filter fun b => decide (b ∈ bits)).Pairwise (· < ·) := (rg_rise 0 n).filter _
  refine srt_uniq (hr.imp fun q => Int.le_of_lt q) (f.ris.imp fun q => Int.le_of_lt q) ((List.perm_ext_iff_of_nodup (hr.imp fun q => Int.ne_of_lt q) (f.ris.imp fun q => Int.ne_of_lt q)).mpr fun x => ?_)
  rw [List.mem_filter, decide_eq_true_eq, mem_rg]
  constructor
  · exact fun h => h.2
  · intro h
    have := f.rng x h
    exact ⟨by omega, h⟩
theorem parse_filter_eq {n : Int} {rows : List (List Int)} {bits : List Int} (v : VS n rows) (f : Fl n bits) : m_parse_filter K [sD n rows, .str (sg n bits)] = .ok (iT bits) := by
  have n1 := v.n1
  have n2 := v.n2
  have sl := sg_len bits (show 0 ≤ n by omega)
  have hz : (sg n bits).length ≤ 1000 := by omega
  have eI : gIsi [.str (sg n bits), .ty "str"] = some (.bl true) := rfl
  have eL : gLen [.str (sg n bits)] = some (.int ((sg n bits).length : Nat)) := if_pos (by omega)
  have ea : eArgs gAll (aCons (eLst (oLc (iStrD (eVar 1)) (gSet 3) bYes (op2 gIn (eVar 3) (eArgs gTupD (aCons (eC (.str "#")) (aCons (eC (.str ".")) aNil)))) [3])) aNil) [.val (sD n rows), .val (.str (sg n bits)), .un, .un] = .ok (.bl ((cs (sg n bits)).all fun c => decide (c = 35 ∨ c = 46))) := by
    have eit : iStrD (eVar 1) [.val (sD n rows), .val (.str (sg n bits)), .un, .un] = .ok ((cs (sg n bits)).map fun c => .str ⟨#[c]⟩) := rfl
    rw [ev_args, ev_cons, ev_lst]
    unfold oLc
    rw [eit]
    simp only [R.bind_ok]
    rw [lc_map (f := fun c => D.str ⟨#[c]⟩) (fun c => .bl (decide (c = 35 ∨ c = 46))) (cs (sg n bits))]
    rotate_left
    · intro c _
      exact ⟨_, rfl, rfl, by simp [gIn_signs]⟩
    simp [TX.cs_len, show (sg n bits).length ≤ 100000 by omega]
  have hall : (cs (sg n bits)).all (fun c => decide (c = 35 ∨ c = 46)) = true := by
    rw [List.all_eq_true]
    exact fun c hc => decide_eq_true (sg_ch hc)
  rw [hall] at ea
  have e1 : sIf (bOr (bNot (asB (eArgs gIsi (aCons (eVar 1) (aCons (eC (.ty "str")) aNil))))) (bOr (asB (op2 gNe (eArgs gLen (aCons (eVar 1) aNil)) (op2 gIx (eVar 0) (eC (.int 0))))) (bNot (asB (eArgs gAll (aCons (eLst (oLc (iStrD (eVar 1)) (gSet 3) bYes (op2 gIn (eVar 3) (eArgs gTupD (aCons (eC (.str "#")) (aCons (eC (.str ".")) aNil)))) [3])) aNil)))))) (sRaise (He.ga K "ParseError")) sNil [.val (sD n rows), .val (.str (sg n bits)), .un, .un] = some (.nx [.val (sD n rows), .val (.str (sg n bits)), .un, .un]) := by
    have en : gNe (.int ((sg n bits).length : Nat)) (.int n) = some (.bl false) := by
      unfold gNe
      simp [dok, eqb, sl]
    have eix : op2 gIx (eVar 0) (eC (.int 0)) [.val (sD n rows), .val (.str (sg n bits)), .un, .un] = .ok (.int n) := by simp
    have el : eArgs gLen (aCons (eVar 1) aNil) [.val (sD n rows), .val (.str (sg n bits)), .un, .un] = .ok (.int ((sg n bits).length : Nat)) := by
      simp only [ev_args, ev_cons, ev_nil, ev_var, List.getElem?_cons_succ, List.getElem?_cons_zero, R.bind_ok, eL, R.lift_some]
    have en2 : op2 gNe (eArgs gLen (aCons (eVar 1) aNil)) (op2 gIx (eVar 0) (eC (.int 0))) [.val (sD n rows), .val (.str (sg n bits)), .un, .un] = .ok (.bl false) := by
      rw [ev_op2, el, eix]
      simp only [R.bind_ok, en, R.lift_some]
    have eis : eArgs gIsi (aCons (eVar 1) (aCons (eC (.ty "str")) aNil)) [.val (sD n rows), .val (.str (sg n bits)), .un, .un] = .ok (.bl true) := by
      simp only [ev_args, ev_cons, ev_nil, ev_var, ev_c, List.getElem?_cons_succ, List.getElem?_cons_zero, R.bind_ok, eI, R.lift_some]
    rw [ev_sif, ev_bOr, ev_bNot, ev_asB, eis]
    simp only [R.bind_ok, Bool.not_true, Bool.false_eq_true, if_false]
    rw [ev_bOr, ev_asB, en2]
    simp only [R.bind_ok, Bool.false_eq_true, if_false]
    rw [ev_bNot, ev_asB, ea]
    simp
  have e2 : eArgs gTuple (aCons (eLst (oLc (iRange (aCons (op2 gIx (eVar 0) (eC (.int 0))) aNil)) (gSet 2) (asB (op2 gEq (op2 gIxS (eVar 1) (eVar 2)) (eC (.str "#")))) (eVar 2) [2])) aNil) [.val (sD n rows), .val (.str (sg n bits)), .un, .un] = .ok (iT bits) := by
    simp [show -100000 ≤ n by omega, show n ≤ 100000 by omega, show n.toNat ≤ 100000 by omega, rangeD_eq, rg_len]
    rw [lc_filt (f := D.int) (fun b => decide (b ∈ bits)) (rg 0 n)]
    rotate_left
    · intro b hb
      have hb := mem_rg.mp hb
      refine ⟨_, rfl, ?_, by simp⟩
      have ec : atI (sg n bits).cps.toList b = some (if b ∈ bits then 35 else 46) := by
        refine atI_of hb.1 ?_
        show (cs (sg n bits))[b.toNat]? = _
        rw [cs_sg, sgC, List.getElem?_map]
        unfold rg
        rw [List.getElem?_map, List.getElem?_range (by omega)]
        simp only [Option.map_some]
        rw [show (0 : Int) + ((b.toNat : Nat) : Int) = b by omega]
      have ei : gIxS (.str (sg n bits)) (.int b) = some (.str ⟨#[if b ∈ bits then 35 else 46]⟩) := by
        unfold gIxS
        simp only []
        rw [if_pos (by omega), ec]
        rfl
      have eq := gEq_hash (if b ∈ bits then 35 else 46) (by split <;> omega)
      simp only [ev_asB, ev_op2, ev_var, ev_c, List.getElem?_cons_succ, List.getElem?_cons_zero, List.set_cons_succ, List.set_cons_zero, R.bind_ok, ei, R.lift_some, eq]
      by_cases c : b ∈ bits <;> simp [c]
    simp only [R.bind_ok, filt_self f]
    rfl
  simp only [m_parse_filter, g_parse_filter, fnD_ev, startE, List.map_cons, List.map_nil, List.length_cons, List.length_nil, List.cons_append, List.nil_append, List.replicate]
  simp only [ev_seq, ev_drop, ev_call, ev_cons, ev_nil, ev_var, List.getElem?_cons_succ, List.getElem?_cons_zero, R.bind_ok, check_scheme_ok v]
  rw [e1]
  simp only [ev_ret, e2]
end LW

set_option Elab.async false
set_option linter.all false
set_option maxRecDepth 100000
set_option maxHeartbeats 2000000
/-! law_k68_formats: the law. -/
namespace LW
open PySem L2 DL TX
variable {K : PySem.W.Frag} {mg : Str → Option Value}
theorem noC_iT (l : List Int) : noC (iT l) = true := by
  show noCs (l.map D.int) = true
  induction l with
  | nil => rfl
  | cons a r ih => simp [noCs, noC, ih]
theorem noCs_map {α : Type} (f : α → D) (l : List α) (h : ∀ a, noC (f a) = true) : noCs (l.map f) = true := by
  induction l with
  | nil => rfl
  | cons a r ih => simp [noCs, h, ih]
theorem noC_sD (n : Int) (rows : List (List Int)) : noC (sD n rows) = true := by
  simp [sD, noC, noCs, noCs_map iT rows noC_iT]
theorem doks_map {α : Type} (m : Nat) (f : α → D) (h : ∀ a, dok m (f a) = true) : ∀ l : List α, doks m (l.map f) = true
  | [] => by simp [doks]
  | a :: r => by simp [doks, h, doks_map m f h r]
theorem eqbs_self {α : Type} (f : α → D) (h : ∀ a, eqb (f a) (f a) = true) : ∀ l : List α, eqbs (l.map f) (l.map f) = true
  | [] => by simp [eqbs]
  | a :: r => by simp [eqbs, h, eqbs_self f h r]
theorem gNe_sD (n : Int) (rows : List (List Int)) : gNe (sD n rows) (sD n rows) = some (.bl false) := by
  have h1 : ∀ l : List Int, dok 6 (iT l) = true := fun l => by
    show doks 5 (l.map D.int) = true
    exact doks_map 5 D.int (fun _ => by simp [dok]) l
  have h2 : ∀ l : List Int, eqb (iT l) (iT l) = true := fun l => by
    show eqbs (l.map D.int) (l.map D.int) = true
    exact eqbs_self D.int (fun a => by simp [eqb]) l
  have d : dok 8 (sD n rows) = true := by
    simp [sD, dok, doks, doks_map 6 iT h1 rows]
  have e : eqb (sD n rows) (sD n rows) = true := by
    simp [sD, eqb, eqbs, eqbs_self iT h2 rows]
  unfold gNe
  rw [d, e]
  rfl
theorem strOk_of {z : Str} (h : ∀ c ∈ cs z, c < 256) : PyData.strOk z = true := by
  unfold PyData.strOk
  rw [Array.all_eq_true']
  intro c hc
  have := h c (by simpa [cs] using hc)
  exact decide_eq_true (by omega)
theorem gNe_str {z : Str} (h : ∀ c ∈ cs z, c < 256) : gNe (.str z) (.str z) = some (.bl false) := by
  unfold gNe
  simp [dok, strOk_of h, eqb]
theorem format_scheme_eq {n : Int} {rows : List (List Int)} (h : V1 n rows) : m_format_scheme K [sD n rows] = .ok (.str (texT n rows)) := by
  simp only [m_format_scheme, g_format_scheme, fnD_ev, startE, List.map_cons, List.map_nil, List.length_cons, List.length_nil, List.cons_append, List.nil_append, List.replicate]
  simp only [ev_seq, ev_drop, ev_call, ev_cons, ev_nil, ev_var, List.getElem?_cons_succ, List.getElem?_cons_zero, R.bind_ok, check_scheme_ok h.v, ev_ret, scheme_text_eq h]
def wideD : D := .tup [.int 16, .tup [.tup [.int 10, .int 15], .tup [.int 0, .int 9, .int 10, .int 11]]]
theorem wide_format : m_format_scheme K [wideD] = .ok (.str "16: 10 15, 0 9 10 11") := by kernel_rfl
theorem wide_parse : m_parse_scheme K [.str "16: 10 15, 0 9 10 11"] = .ok wideD := by kernel_rfl
def badS : List D := [.non, .int 5, .str "", .str "4", .str "4:", .str "4: ", .str "4:0", .str "4: 0,1", .str "4: 0  1", .str "4: 0 0", .str "4: 1 0", .str "4: 4", .str "4: 00", .str "04: 0"]
def badT : List D := [.str "17: 0", .str "0: 0", .str "4: 0, ", .str "4: 0 1 2 3 4", .str " 4: 0", .str "4: 0 ", .str "4: a", .str "4: -1", .str "4: 0: 1", .str "4: 0\n"]
theorem bad_all : ∀ d ∈ badS ++ badT, noC d = true ∧ m_parse_scheme K [d] = .exc (He.ga K "ParseError") := by
  intro d hd
  simp only [badS, badT, List.cons_append, List.nil_append, List.mem_cons, List.not_mem_nil, or_false] at hd
  rcases hd with rfl | rfl | rfl | rfl | rfl | rfl | rfl | rfl | rfl | rfl | rfl | rfl | rfl | rfl | rfl | rfl | rfl | rfl | rfl | rfl | rfl | rfl | rfl | rfl <;> exact ⟨rfl, by kernel_rfl⟩
theorem b1_eq (T : Tb mg K) (fr : Fr) {d : D} (hn : noC d = true) (he : m_parse_scheme K [d] = .exc (He.ga K "ParseError")) (a0 a1 a2 a3 a4 a5 a6 a8 a9 : DL.Slot) :
    b1_law K fr [a0, a1, a2, a3, a4, a5, a6, .val d, a8, a9] = some (.nx [a0, a1, a2, a3, a4, a5, a6, .val d, a8, a9]) := by
  have ec := callL_ParseError (fr := fr) (f := eArgs gLstD (aCons (eC (.fn fr lam_0 [7])) aNil)) (ρ := [a0, a1, a2, a3, a4, a5, a6, .val d, a8, a9]) T [(lam_0, [d])] (ds := [.fn fr lam_0 [7]]) (by simp) (by simp [captL, capt, slots]) (by simp) (by
    intro p hp
    rw [List.mem_singleton.mp hp]
    refine ⟨by simp [noCs, hn], ?_⟩
    rw [lt_0]
    have ev0 : eVar 0 (startE 1 [d]) = .ok d := rfl
    simp only [fb_0, ev_call, ev_cons, ev_nil, ev0, R.bind_ok, he])
  simp only [b1_law, ev_sif, ev_bNot, ev_asB, ec, R.bind_ok, Bool.not_true, Bool.false_eq_true, if_false, ev_sNil]
theorem b2_eq (T : Tb mg K) (fr : Fr) {s d : D} (hs : noC s = true) (hn : noC d = true) (he : m_parse_filter K [s, d] = .exc (He.ga K "ParseError")) (a0 a2 a3 a4 a5 a6 a8 a9 : DL.Slot) :
    b2_law K fr [a0, .val s, a2, a3, a4, a5, a6, .val d, a8, a9] = some (.nx [a0, .val s, a2, a3, a4, a5, a6, .val d, a8, a9]) := by
  have ec := callL_ParseError (fr := fr) (f := eArgs gLstD (aCons (eC (.fn fr lam_1 [1, 7])) aNil)) (ρ := [a0, .val s, a2, a3, a4, a5, a6, .val d, a8, a9]) T [(lam_1, [s, d])] (ds := [.fn fr lam_1 [1, 7]]) (by simp) (by simp [captL, capt, slots]) (by simp) (by
    intro p hp
    rw [List.mem_singleton.mp hp]
    refine ⟨by simp [noCs, hn, hs], ?_⟩
    rw [lt_1]
    have ev0 : eVar 0 (startE 2 [s, d]) = .ok s := rfl
    have ev1 : eVar 1 (startE 2 [s, d]) = .ok d := rfl
    simp only [fb_1, ev_call, ev_cons, ev_nil, ev0, ev1, R.bind_ok, he])
  simp only [b2_law, ev_sif, ev_bNot, ev_asB, ec, R.bind_ok, Bool.not_true, Bool.false_eq_true, if_false, ev_sNil]
theorem each_loop {b : SD} {a0 a1 a2 a3 a4 a5 a6 a8 a9 : DL.Slot} : ∀ (items : List D) (x7 : DL.Slot), (∀ d ∈ items, b [a0, a1, a2, a3, a4, a5, a6, .val d, a8, a9] = some (.nx [a0, a1, a2, a3, a4, a5, a6, .val d, a8, a9])) →
    ∃ y7, forLoop (gSet 7) b items [a0, a1, a2, a3, a4, a5, a6, x7, a8, a9] = some (.nx [a0, a1, a2, a3, a4, a5, a6, y7, a8, a9])
  | [], x7, _ => ⟨x7, by simp [forLoop]⟩
  | d :: r, x7, h => by
    obtain ⟨y7, e⟩ := each_loop r (.val d) fun z hz => h z (by simp [hz])
    refine ⟨y7, ?_⟩
    unfold forLoop
    simp only [ev_gSet, List.set_cons_succ, List.set_cons_zero, h d (by simp)]
    exact e
theorem slice_sub {z : Str} {lo hi : Option Int} {c : Nat} (h : c ∈ cs (Txt.slice z lo hi)) : c ∈ cs z := by
  rw [← C8.cutS_slice] at h
  have h : c ∈ ((z.cps.toList.drop (HT.sIx z.length 0 lo)).take (HT.sIx z.length z.length hi - HT.sIx z.length 0 lo)).toArray.toList := h
  rw [List.toList_toArray] at h
  exact List.mem_of_mem_drop (List.mem_of_mem_take h)
theorem slice_tail (z : Str) (h : 1 ≤ z.length) : (Txt.slice z (some 1) none).length = z.length - 1 := by
  rw [← C8.cutS_slice, ← TX.cs_len]
  show (((z.cps.toList.drop (HT.sIx z.length 0 (some 1))).take (HT.sIx z.length z.length none - HT.sIx z.length 0 (some 1))).toArray.toList).length = _
  have e1 : HT.sIx z.length 0 (some 1) = 1 := by
    show (if (1 : Int) < 0 then ((1 : Int) + (z.length : Int)).toNat else min (1 : Int).toNat z.length) = 1
    rw [if_neg (by decide)]
    show min 1 z.length = 1
    omega
  have e2 : HT.sIx z.length z.length none = z.length := rfl
  rw [List.toList_toArray, e1, e2, List.length_take, List.length_drop]
  have : z.cps.toList.length = z.length := TX.cs_len z
  omega
theorem law_true (T : Tb mg K) (ns : List Int) (hl : ns.length ≤ 63) : m_law K [.scr ns] = .ok (.bl true) := by
  unfold m_law
  refine fnDL_eq fun fr => ?_
  obtain ⟨n, rows, eS, dS⟩ := scheme2_ok (K := K) (ns := ns) (at_ := 0) (most := 8) hl (by omega) (by decide) (by omega)
  have v := dS.vs (by decide)
  have hn1 := dS.n1
  have hn2 := dS.n2
  have h1 : V1 n rows := ⟨v, by omega⟩
  obtain ⟨bits, eB, rB, kB⟩ := some_ok (K := K) (ns := ns) (at_ := 60) (most := n) (ch := 50) hl (by omega) (by omega) (by omega)
  have f : Fl n bits := ⟨rB, fun x hx => by have := kB x hx; omega⟩
  have r2 := v.r2
  have e1 : s1_law K fr [.val (.scr ns), .un, .un, .un, .un, .un, .un, .un, .un, .un] = some (.nx [.val (.scr ns), .val (sD n rows), .un, .un, .un, .un, .un, .un, .un, .un]) := by simp [s1_law, eS]
  have e2 : s2_law K fr [.val (.scr ns), .val (sD n rows), .un, .un, .un, .un, .un, .un, .un, .un] = some (.nx [.val (.scr ns), .val (sD n rows), .val (iT bits), .un, .un, .un, .un, .un, .un, .un]) := by simp [s2_law, eB]
  have e3 : s3_law K fr [.val (.scr ns), .val (sD n rows), .val (iT bits), .un, .un, .un, .un, .un, .un, .un] = some (.nx [.val (.scr ns), .val (sD n rows), .val (iT bits), .val (.str (texT n rows)), .un, .un, .un, .un, .un, .un]) := by
    have ea : op2 gAdd (eArgs gStr (aCons (op2 gIx (eVar 1) (eC (.int 0))) aNil)) (eC (.str ": ")) [.val (.scr ns), .val (sD n rows), .val (iT bits), .un, .un, .un, .un, .un, .un, .un] = .ok (.str (dg n ++ ": ")) := by
      have eg : gAdd (.str (dg n)) (.str ": ") = some (.str (dg n ++ ": ")) := by
        unfold gAdd
        simp only []
        rw [if_pos]
        have h4 : (": " : Str).length = 2 := by decide +kernel
        have h5 : (dg n).length = 1 := rfl
        omega
      simp [gStr_dg (show 0 ≤ n by omega) (show n < 10 by omega), eg]
    have el : eLst (oLc (iSeqD (op2 gIx (eVar 1) (eC (.int 1)))) (gSet 9) bYes (eM1 gJoin (eC (.str " ")) (eLst (oLc (iSeqD (eVar 9)) (gSet 8) bYes (eArgs gStr (aCons (eVar 8) aNil)) [8]))) [9]) [.val (.scr ns), .val (sD n rows), .val (iT bits), .un, .un, .un, .un, .un, .un, .un] = .ok (.lst (rows.map fun r => .str (rowT r))) := by
      simp [sD, show rows.length ≤ 100000 by omega]
      rw [lc_map (f := iT) (fun r => .str (rowT r)) rows]
      rotate_left
      · intro r hr
        have h4 := v.l2 r hr
        refine ⟨_, rfl, rfl, ?_⟩
        have ei : eLst (oLc (iSeqD (eVar 9)) (gSet 8) bYes (eArgs gStr (aCons (eVar 8) aNil)) [8]) [.val (.scr ns), .val (sD n rows), .val (iT bits), .un, .un, .un, .un, .un, .un, .val (iT r)] = .ok (.lst (r.map fun x => .str (dg x))) := by
          simp [show r.length ≤ 100000 by omega]
          rw [lc_map (f := D.int) (fun x => .str (dg x)) r]
          rotate_left
          · intro x hx
            have := h1.bit hr hx
            exact ⟨_, rfl, rfl, by simp [gStr_dg this.1 this.2]⟩
          simp
        exact m1_join ei (row_join h1 hr)
      simp
    rw [s3_law, ev_set, ev_op2, ea, m1_join el (rows_join h1)]
    simp only [R.bind_ok, head_add h1, R.lift_some, List.set_cons_succ, List.set_cons_zero]
  have e4 : s4_law K fr [.val (.scr ns), .val (sD n rows), .val (iT bits), .val (.str (texT n rows)), .un, .un, .un, .un, .un, .un] = some (.nx [.val (.scr ns), .val (sD n rows), .val (iT bits), .val (.str (texT n rows)), .val (.str (sg n bits)), .un, .un, .un, .un, .un]) := by
    have ei : eLst (oLc (iRange (aCons (op2 gIx (eVar 1) (eC (.int 0))) aNil)) (gSet 8) bYes (eIf (asB (op2 gIn (eVar 8) (eVar 2))) (eC (.str "#")) (eC (.str "."))) [8]) [.val (.scr ns), .val (sD n rows), .val (iT bits), .val (.str (texT n rows)), .un, .un, .un, .un, .un, .un] = .ok (.lst ((rg 0 n).map fun b => .str (if b ∈ bits then "#" else "."))) := by
      simp [show -100000 ≤ n by omega, show n ≤ 100000 by omega, show n.toNat ≤ 100000 by omega, rangeD_eq, rg_len]
      rw [lc_map (f := D.int) (fun b => .str (if b ∈ bits then "#" else ".")) (rg 0 n)]
      rotate_left
      · intro b _
        refine ⟨_, rfl, rfl, ?_⟩
        by_cases c : b ∈ bits <;> simp [c]
      simp
    rw [s4_law, ev_set, m1_join ei (sg_join bits (by omega) (by omega))]
    simp only [List.set_cons_succ, List.set_cons_zero]
  have hsc : ∀ c ∈ cs (sg n bits), c < 256 := fun c hc => by have := sg_ch hc; omega
  have e5 : s5_law K fr [.val (.scr ns), .val (sD n rows), .val (iT bits), .val (.str (texT n rows)), .val (.str (sg n bits)), .un, .un, .un, .un, .un] = some (.nx [.val (.scr ns), .val (sD n rows), .val (iT bits), .val (.str (texT n rows)), .val (.str (sg n bits)), .un, .un, .un, .un, .un]) := by
    simp only [s5_law, ev_sif, ev_bOr, ev_asB, ev_op2, ev_call, ev_cons, ev_nil, ev_var, List.getElem?_cons_succ, List.getElem?_cons_zero, R.bind_ok, format_scheme_eq h1, parse_scheme_eq h1, gNe_str (fun c hc => tex_ch h1 hc), gNe_sD, R.lift_some, Bool.false_eq_true, if_false, ev_sNil]
  have e6 : s6_law K fr [.val (.scr ns), .val (sD n rows), .val (iT bits), .val (.str (texT n rows)), .val (.str (sg n bits)), .un, .un, .un, .un, .un] = some (.nx [.val (.scr ns), .val (sD n rows), .val (iT bits), .val (.str (texT n rows)), .val (.str (sg n bits)), .un, .un, .un, .un, .un]) := by
    have en : gNe (iT bits) (iT bits) = some (.bl false) := by simp
    simp only [s6_law, ev_sif, ev_bOr, ev_asB, ev_op2, ev_call, ev_cons, ev_nil, ev_var, List.getElem?_cons_succ, List.getElem?_cons_zero, R.bind_ok, format_filter_eq v f, parse_filter_eq v f, gNe_str hsc, en, R.lift_some, Bool.false_eq_true, if_false, ev_sNil]
  have e7 : s7_law K fr [.val (.scr ns), .val (sD n rows), .val (iT bits), .val (.str (texT n rows)), .val (.str (sg n bits)), .un, .un, .un, .un, .un] = some (.nx [.val (.scr ns), .val (sD n rows), .val (iT bits), .val (.str (texT n rows)), .val (.str (sg n bits)), .val wideD, .un, .un, .un, .un]) := rfl
  have e8 : s8_law K fr [.val (.scr ns), .val (sD n rows), .val (iT bits), .val (.str (texT n rows)), .val (.str (sg n bits)), .val wideD, .un, .un, .un, .un] = some (.nx [.val (.scr ns), .val (sD n rows), .val (iT bits), .val (.str (texT n rows)), .val (.str (sg n bits)), .val wideD, .un, .un, .un, .un]) := by
    have en : gNe (.str "16: 10 15, 0 9 10 11") (.str "16: 10 15, 0 9 10 11") = some (.bl false) := by kernel_rfl
    have ew : gNe wideD wideD = some (.bl false) := by kernel_rfl
    simp only [s8_law, ev_sif, ev_bOr, ev_asB, ev_op2, ev_call, ev_cons, ev_nil, ev_var, ev_c, List.getElem?_cons_succ, List.getElem?_cons_zero, R.bind_ok, wide_format, wide_parse, en, ew, R.lift_some, Bool.false_eq_true, if_false, ev_sNil]
  have e9 : s9_law K fr [.val (.scr ns), .val (sD n rows), .val (iT bits), .val (.str (texT n rows)), .val (.str (sg n bits)), .val wideD, .un, .un, .un, .un] = some (.nx [.val (.scr ns), .val (sD n rows), .val (iT bits), .val (.str (texT n rows)), .val (.str (sg n bits)), .val wideD, .own (.lst badS), .un, .un, .un]) := by
    simp [s9_law, badS]
  have e10 : s10_law K fr [.val (.scr ns), .val (sD n rows), .val (iT bits), .val (.str (texT n rows)), .val (.str (sg n bits)), .val wideD, .own (.lst badS), .un, .un, .un] = some (.nx [.val (.scr ns), .val (sD n rows), .val (iT bits), .val (.str (texT n rows)), .val (.str (sg n bits)), .val wideD, .own (.lst (badS ++ badT)), .un, .un, .un]) := by
    simp [s10_law, badS, badT]
  obtain ⟨y7, e11⟩ := each_loop (b := b1_law K fr) (a0 := .val (.scr ns)) (a1 := .val (sD n rows)) (a2 := .val (iT bits)) (a3 := .val (.str (texT n rows))) (a4 := .val (.str (sg n bits))) (a5 := .val wideD) (a6 := .val (.lst (badS ++ badT))) (a8 := .un) (a9 := .un) (badS ++ badT) .un fun d hd => b1_eq T fr (bad_all (K := K) d hd).1 (bad_all d hd).2 _ _ _ _ _ _ _ _ _
  have h11 : s11_law K fr [.val (.scr ns), .val (sD n rows), .val (iT bits), .val (.str (texT n rows)), .val (.str (sg n bits)), .val wideD, .val (.lst (badS ++ badT)), .un, .un, .un] = some (.nx [.val (.scr ns), .val (sD n rows), .val (iT bits), .val (.str (texT n rows)), .val (.str (sg n bits)), .val wideD, .val (.lst (badS ++ badT)), y7, .un, .un]) := by
    have ei : iSeqD (eVar 6) [.val (.scr ns), .val (sD n rows), .val (iT bits), .val (.str (texT n rows)), .val (.str (sg n bits)), .val wideD, .val (.lst (badS ++ badT)), .un, .un, .un] = .ok (badS ++ badT) := rfl
    rw [s11_law, ev_for, ei]
    exact e11
  have sl := sg_len bits (show 0 ≤ n by omega)
  have hs0 : (sg n bits).length ≤ 100 := by omega
  have d1 : (("." : Str)).length = 1 := by decide +kernel
  have d2 : (("x" : Str)).length = 1 := by decide +kernel
  have d3 : ((" " : Str)).length = 1 := by decide +kernel
  have q1 := Txt.slice_le (sg n bits) (some 1) none
  have q2 := Txt.slice_le (sg n bits) none (some (-1))
  have hC : ∀ (a b : Str), a.length + b.length ≤ 1000 → gAdd (.str a) (.str b) = some (.str (a ++ b)) := fun a b h => by
    unfold gAdd
    simp only []
    rw [if_pos (by omega)]
  have hS : ∀ lo hi, eSlS (eVar 4) lo hi [.val (.scr ns), .val (sD n rows), .val (iT bits), .val (.str (texT n rows)), .val (.str (sg n bits)), .val wideD, .val (.lst (badS ++ badT)), y7, .un, .un] = (lo [.val (.scr ns), .val (sD n rows), .val (iT bits), .val (.str (texT n rows)), .val (.str (sg n bits)), .val wideD, .val (.lst (badS ++ badT)), y7, .un, .un]).bind fun l => (hi [.val (.scr ns), .val (sD n rows), .val (iT bits), .val (.str (texT n rows)), .val (.str (sg n bits)), .val wideD, .val (.lst (badS ++ badT)), y7, .un, .un]).bind fun h => .ok (.str (Txt.slice (sg n bits) l h)) := fun lo hi => by
    unfold eSlS
    simp only [ev_var, List.getElem?_cons_succ, List.getElem?_cons_zero, R.bind_ok, show (sg n bits).length ≤ 100000 by omega, if_true]
  have ei12 : iSeqD (eArgs gTupD (aCons (eC .non) (aCons (eC (.int 5)) (aCons (op2 gAdd (eVar 4) (eC (.str "."))) (aCons (eSlS (eVar 4) (oPart (some (eC (.int 1)))) (oPart none)) (aCons (op2 gAdd (eC (.str "x")) (eSlS (eVar 4) (oPart (some (eC (.int 1)))) (oPart none))) (aCons (op2 gAdd (eSlS (eVar 4) (oPart none) (oPart (some (eNeg (eC (.int 1)))))) (eC (.str " "))) (aCons (eArgs gListS (aCons (eVar 4) aNil)) aNil)))))))) [.val (.scr ns), .val (sD n rows), .val (iT bits), .val (.str (texT n rows)), .val (.str (sg n bits)), .val wideD, .val (.lst (badS ++ badT)), y7, .un, .un]
      = .ok [.non, .int 5, .str (sg n bits ++ "."), .str (Txt.slice (sg n bits) (some 1) none), .str ("x" ++ Txt.slice (sg n bits) (some 1) none), .str (Txt.slice (sg n bits) none (some (-1)) ++ " "), .lst ((cs (sg n bits)).map fun c => .str ⟨#[c]⟩)] := by
    have p1 : oPart (some (eC (.int 1))) [.val (.scr ns), .val (sD n rows), .val (iT bits), .val (.str (texT n rows)), .val (.str (sg n bits)), .val wideD, .val (.lst (badS ++ badT)), y7, .un, .un] = .ok (some 1) := rfl
    have p2 : oPart none [.val (.scr ns), .val (sD n rows), .val (iT bits), .val (.str (texT n rows)), .val (.str (sg n bits)), .val wideD, .val (.lst (badS ++ badT)), y7, .un, .un] = .ok none := rfl
    have p3 : oPart (some (eNeg (eC (.int 1)))) [.val (.scr ns), .val (sD n rows), .val (iT bits), .val (.str (texT n rows)), .val (.str (sg n bits)), .val wideD, .val (.lst (badS ++ badT)), y7, .un, .un] = .ok (some (-1)) := rfl
    have gl : gListS [.str (sg n bits)] = some (.lst ((cs (sg n bits)).map fun c => .str ⟨#[c]⟩)) := if_pos (by omega)
    rw [ev_iSeq]
    simp only [ev_args, ev_cons, ev_nil, ev_op2, ev_c, ev_var, hS, p1, p2, p3, List.getElem?_cons_succ, List.getElem?_cons_zero, R.bind_ok, hC (sg n bits) "." (by omega), hC "x" (Txt.slice (sg n bits) (some 1) none) (by omega), hC (Txt.slice (sg n bits) none (some (-1))) " " (by omega), gl, R.lift_some]
    rfl
  obtain ⟨z7, e12⟩ := each_loop (b := b2_law K fr) (a0 := .val (.scr ns)) (a1 := .val (sD n rows)) (a2 := .val (iT bits)) (a3 := .val (.str (texT n rows))) (a4 := .val (.str (sg n bits))) (a5 := .val wideD) (a6 := .val (.lst (badS ++ badT))) (a8 := .un) (a9 := .un) [.non, .int 5, .str (sg n bits ++ "."), .str (Txt.slice (sg n bits) (some 1) none), .str ("x" ++ Txt.slice (sg n bits) (some 1) none), .str (Txt.slice (sg n bits) none (some (-1)) ++ " "), .lst ((cs (sg n bits)).map fun c => .str ⟨#[c]⟩)] y7 (by
    intro d hd
    simp only [List.mem_cons, List.not_mem_nil, or_false] at hd
    rcases hd with rfl | rfl | rfl | rfl | rfl | rfl | rfl
    · exact b2_eq T fr (noC_sD n rows) rfl (pf_other v rfl) _ _ _ _ _ _ _ _
    · exact b2_eq T fr (noC_sD n rows) rfl (pf_other v rfl) _ _ _ _ _ _ _ _
    · exact b2_eq T fr (noC_sD n rows) rfl (pf_bad v (by rw [Str.length_append]; omega) (.inl (by rw [Str.length_append]; omega))) _ _ _ _ _ _ _ _
    · exact b2_eq T fr (noC_sD n rows) rfl (pf_bad v (by omega) (.inl (by rw [slice_tail _ (by omega)]; omega))) _ _ _ _ _ _ _ _
    · exact b2_eq T fr (noC_sD n rows) rfl (pf_bad v (by rw [Str.length_append]; omega) (.inr ⟨120, by rw [cs_app]; exact List.mem_append_left _ (by decide +kernel), by decide, by decide⟩)) _ _ _ _ _ _ _ _
    · exact b2_eq T fr (noC_sD n rows) rfl (pf_bad v (by rw [Str.length_append]; omega) (.inr ⟨32, by rw [cs_app]; exact List.mem_append_right _ (by decide +kernel), by decide, by decide⟩)) _ _ _ _ _ _ _ _
    · exact b2_eq T fr (noC_sD n rows) (show noC (.lst ((cs (sg n bits)).map fun c => D.str ⟨#[c]⟩)) = true from noCs_map (fun c => D.str ⟨#[c]⟩) (cs (sg n bits)) fun _ => rfl) (pf_other v rfl) _ _ _ _ _ _ _ _)
  have h12 : s12_law K fr [.val (.scr ns), .val (sD n rows), .val (iT bits), .val (.str (texT n rows)), .val (.str (sg n bits)), .val wideD, .val (.lst (badS ++ badT)), y7, .un, .un] = some (.nx [.val (.scr ns), .val (sD n rows), .val (iT bits), .val (.str (texT n rows)), .val (.str (sg n bits)), .val wideD, .val (.lst (badS ++ badT)), z7, .un, .un]) := by
    rw [s12_law, ev_for, ei12]
    exact e12
  simp only [g_law, fnD_ev, startE, List.map_cons, List.map_nil, List.length_cons, List.length_nil, List.cons_append, List.nil_append, List.replicate]
  rw [ev_seq, e1]
  simp only []
  rw [ev_seq, e2]
  simp only []
  rw [ev_seq, e3]
  simp only []
  rw [ev_seq, e4]
  simp only []
  rw [ev_seq, e5]
  simp only []
  rw [ev_seq, e6]
  simp only []
  rw [ev_seq, e7]
  simp only []
  rw [ev_seq, e8]
  simp only []
  rw [ev_seq, e9]
  simp only []
  rw [ev_seq, e10]
  simp only [ev_frz, List.getElem?_cons_succ, List.getElem?_cons_zero, owD_lst, List.set_cons_succ, List.set_cons_zero]
  rw [ev_seq, h11]
  simp only []
  rw [ev_seq, h12]
  simp only [s13_law, ev_ret, ev_c]
end LW

namespace LW
open PySem L2 DL
def d_is_int : He.DefD := ⟨("is_int", none), "is_int", "is_int", defArgs (topS 19), defBody (topS 19), defScope (topS 19), [], []⟩
def d_is_rising : He.DefD := ⟨("is_rising", none), "is_rising", "is_rising", defArgs (topS 20), defBody (topS 20), defScope (topS 20), [], []⟩
def d_is_scheme : He.DefD := ⟨("is_scheme", none), "is_scheme", "is_scheme", defArgs (topS 21), defBody (topS 21), defScope (topS 21), [], []⟩
def d_check_scheme : He.DefD := ⟨("check_scheme", none), "check_scheme", "check_scheme", defArgs (topS 22), defBody (topS 22), defScope (topS 22), [], []⟩
def d_scheme_text : He.DefD := ⟨("scheme_text", none), "scheme_text", "scheme_text", defArgs (topS 29), defBody (topS 29), defScope (topS 29), [], []⟩
def d_format_scheme : He.DefD := ⟨("format_scheme", none), "format_scheme", "format_scheme", defArgs (topS 30), defBody (topS 30), defScope (topS 30), [], []⟩
def d_read_number : He.DefD := ⟨("read_number", none), "read_number", "read_number", defArgs (topS 31), defBody (topS 31), defScope (topS 31), [], []⟩
def d_parse_scheme : He.DefD := ⟨("parse_scheme", none), "parse_scheme", "parse_scheme", defArgs (topS 32), defBody (topS 32), defScope (topS 32), [], []⟩
def d_check_filter : He.DefD := ⟨("check_filter", none), "check_filter", "check_filter", defArgs (topS 23), defBody (topS 23), defScope (topS 23), [], []⟩
def d_format_filter : He.DefD := ⟨("format_filter", none), "format_filter", "format_filter", defArgs (topS 33), defBody (topS 33), defScope (topS 33), [], []⟩
def d_parse_filter : He.DefD := ⟨("parse_filter", none), "parse_filter", "parse_filter", defArgs (topS 34), defBody (topS 34), defScope (topS 34), [], []⟩
def d__law_pick : He.DefD := ⟨("_law_pick", none), "_law_pick", "_law_pick", defArgs (topS 36), defBody (topS 36), defScope (topS 36), [], []⟩
def d__law_some : He.DefD := ⟨("_law_some", none), "_law_some", "_law_some", defArgs (topS 37), defBody (topS 37), defScope (topS 37), [], []⟩
def d__law_scheme : He.DefD := ⟨("_law_scheme", none), "_law_scheme", "_law_scheme", defArgs (topS 38), defBody (topS 38), defScope (topS 38), [], []⟩
def d__law_class : He.DefD := ⟨("_law_class", none), "_law_class", "_law_class", defArgs (topS 39), defBody (topS 39), defScope (topS 39), [], []⟩
def d__law_result : He.DefD := ⟨("_law_result", none), "_law_result", "_law_result", defArgs (topS 40), defBody (topS 40), defScope (topS 40), [], []⟩
def d__law_all : He.DefD := ⟨("_law_all", none), "_law_all", "_law_all", defArgs (topS 41), defBody (topS 41), defScope (topS 41), [], []⟩
def d_law : He.DefD := ⟨("law", none), "law", "law", defArgs (topS 42), defBody (topS 42), defScope (topS 42), [], []⟩
def fn : List He.DefD := [d_is_int, d_is_rising, d_is_scheme, d_check_scheme, d_scheme_text, d_format_scheme, d_read_number, d_parse_scheme, d_check_filter, d_format_filter, d_parse_filter, d__law_pick, d__law_some, d__law_scheme, d__law_class, d__law_result, d__law_all, d_law]
def fa : List He.Fa := [.free "ValueError", .free "all", .free "bool", .free "int", .free "isinstance", .free "len", .free "list", .free "max", .free "min", .free "range", .free "str", .free "tuple", .free "zip", .int "MAX_BITS" 4, .int "MAX_DIGITS" 2, .int "MAX_KEYS" 10, .int "MAX_SIZE" 16, .str "CLEAR" ".", .str "DIGITS" "0123456789", .str "SET" "#", .glo "AlreadyThere", .glo "BloomError", .glo "InvalidCounters", .glo "InvalidFilter", .glo "InvalidHistory", .glo "InvalidKey", .glo "InvalidKeys", .glo "InvalidNumber", .glo "InvalidScheme", .glo "NotThere", .glo "NothingToUndo", .glo "OddSize", .glo "ParseError", .glo "TooLarge", .glo "_law_all", .glo "_law_class", .glo "_law_pick", .glo "_law_result", .glo "_law_scheme", .glo "_law_some", .glo "check_filter", .glo "check_scheme", .glo "format_filter", .glo "format_scheme", .glo "is_int", .glo "is_rising", .glo "is_scheme", .glo "law", .glo "parse_filter", .glo "parse_scheme", .glo "read_number", .glo "scheme_text", .exc "InvalidFilter", .exc "InvalidScheme", .exc "ParseError", .exm "ParseError" "BloomError" true, .exm "ParseError" "InvalidScheme" false, .exm "ParseError" "InvalidKeys" false, .exm "ParseError" "InvalidFilter" false, .exm "ParseError" "InvalidNumber" false, .exm "ParseError" "InvalidKey" false, .exm "ParseError" "TooLarge" false, .exm "ParseError" "OddSize" false, .exm "ParseError" "InvalidCounters" false, .exm "ParseError" "InvalidHistory" false, .exm "ParseError" "AlreadyThere" false, .exm "ParseError" "NotThere" false, .exm "ParseError" "NothingToUndo" false, .exm "ParseError" "ParseError" true, .exm "InvalidScheme" "InvalidScheme" true, .exm "InvalidKeys" "InvalidKeys" true, .exm "InvalidFilter" "InvalidFilter" true, .exm "InvalidNumber" "InvalidNumber" true, .exm "InvalidKey" "InvalidKey" true, .exm "TooLarge" "TooLarge" true, .exm "OddSize" "OddSize" true, .exm "InvalidCounters" "InvalidCounters" true, .exm "InvalidHistory" "InvalidHistory" true, .exm "AlreadyThere" "AlreadyThere" true, .exm "NotThere" "NotThere" true, .exm "NothingToUndo" "NothingToUndo" true]
def ex : List Str := ["ParseError"]
def loose : List Str := (["BloomError", "InvalidScheme", "InvalidKeys", "InvalidFilter", "InvalidNumber", "InvalidKey", "TooLarge", "OddSize", "InvalidCounters", "InvalidHistory", "AlreadyThere", "NotThere", "NothingToUndo", "ParseError", "MAX_SIZE", "MAX_KEYS", "MAX_BITS", "is_int", "is_rising", "is_scheme", "check_scheme", "check_filter", "DIGITS", "MAX_DIGITS", "SET", "CLEAR", "scheme_text", "format_scheme", "read_number", "parse_scheme"] : List Str) ++ (["format_filter", "parse_filter", "_law_pick", "_law_some", "_law_scheme", "_law_class", "_law_result", "_law_all"] : List Str)
def tf : List (He.Defn × Str) := [(("law", none), "law")]
def tfn : List He.Defn := tf.map (·.1)
theorem tb_of {K : PySem.W.Frag} {mg : Str → Option Value} {h : Heap} {w : World} (KX : K.In h) (G : h.Ns mainGlobals mg) (c : He.SaysX fa fn [] tfn (exL ex tfn) w h K) : Tb mg K where
  n_ValueError := He.free_ok KX G (c.t.d.fact 0)
  n_all := He.free_ok KX G (c.t.d.fact 1)
  n_bool := He.free_ok KX G (c.t.d.fact 2)
  n_int := He.free_ok KX G (c.t.d.fact 3)
  n_isinstance := He.free_ok KX G (c.t.d.fact 4)
  n_len := He.free_ok KX G (c.t.d.fact 5)
  n_list := He.free_ok KX G (c.t.d.fact 6)
  n_max := He.free_ok KX G (c.t.d.fact 7)
  n_min := He.free_ok KX G (c.t.d.fact 8)
  n_range := He.free_ok KX G (c.t.d.fact 9)
  n_str := He.free_ok KX G (c.t.d.fact 10)
  n_tuple := He.free_ok KX G (c.t.d.fact 11)
  n_zip := He.free_ok KX G (c.t.d.fact 12)
  i_MAX_BITS := He.int_ok KX G (c.t.d.fact 13)
  i_MAX_DIGITS := He.int_ok KX G (c.t.d.fact 14)
  i_MAX_KEYS := He.int_ok KX G (c.t.d.fact 15)
  i_MAX_SIZE := He.int_ok KX G (c.t.d.fact 16)
  s_CLEAR := He.str_ok KX G (c.t.d.fact 17)
  s_DIGITS := He.str_ok KX G (c.t.d.fact 18)
  s_SET := He.str_ok KX G (c.t.d.fact 19)
  r_AlreadyThere := He.glo_ok KX G (c.t.d.fact 20)
  r_BloomError := He.glo_ok KX G (c.t.d.fact 21)
  r_InvalidCounters := He.glo_ok KX G (c.t.d.fact 22)
  r_InvalidFilter := He.glo_ok KX G (c.t.d.fact 23)
  r_InvalidHistory := He.glo_ok KX G (c.t.d.fact 24)
  r_InvalidKey := He.glo_ok KX G (c.t.d.fact 25)
  r_InvalidKeys := He.glo_ok KX G (c.t.d.fact 26)
  r_InvalidNumber := He.glo_ok KX G (c.t.d.fact 27)
  r_InvalidScheme := He.glo_ok KX G (c.t.d.fact 28)
  r_NotThere := He.glo_ok KX G (c.t.d.fact 29)
  r_NothingToUndo := He.glo_ok KX G (c.t.d.fact 30)
  r_OddSize := He.glo_ok KX G (c.t.d.fact 31)
  r_ParseError := He.glo_ok KX G (c.t.d.fact 32)
  r_TooLarge := He.glo_ok KX G (c.t.d.fact 33)
  r__law_all := He.glo_ok KX G (c.t.d.fact 34)
  r__law_class := He.glo_ok KX G (c.t.d.fact 35)
  r__law_pick := He.glo_ok KX G (c.t.d.fact 36)
  r__law_result := He.glo_ok KX G (c.t.d.fact 37)
  r__law_scheme := He.glo_ok KX G (c.t.d.fact 38)
  r__law_some := He.glo_ok KX G (c.t.d.fact 39)
  r_check_filter := He.glo_ok KX G (c.t.d.fact 40)
  r_check_scheme := He.glo_ok KX G (c.t.d.fact 41)
  r_format_filter := He.glo_ok KX G (c.t.d.fact 42)
  r_format_scheme := He.glo_ok KX G (c.t.d.fact 43)
  r_is_int := He.glo_ok KX G (c.t.d.fact 44)
  r_is_rising := He.glo_ok KX G (c.t.d.fact 45)
  r_is_scheme := He.glo_ok KX G (c.t.d.fact 46)
  r_law := He.glo_ok KX G (c.t.d.fact 47)
  r_parse_filter := He.glo_ok KX G (c.t.d.fact 48)
  r_parse_scheme := He.glo_ok KX G (c.t.d.fact 49)
  r_read_number := He.glo_ok KX G (c.t.d.fact 50)
  r_scheme_text := He.glo_ok KX G (c.t.d.fact 51)
  x_InvalidFilter := c.t.d.fact 52
  x_InvalidScheme := c.t.d.fact 53
  x_ParseError := c.t.d.fact 54
  e_ParseError_BloomError := He.exm_ok (c.t.d.fact 55)
  e_ParseError_InvalidScheme := He.exm_ok (c.t.d.fact 56)
  e_ParseError_InvalidKeys := He.exm_ok (c.t.d.fact 57)
  e_ParseError_InvalidFilter := He.exm_ok (c.t.d.fact 58)
  e_ParseError_InvalidNumber := He.exm_ok (c.t.d.fact 59)
  e_ParseError_InvalidKey := He.exm_ok (c.t.d.fact 60)
  e_ParseError_TooLarge := He.exm_ok (c.t.d.fact 61)
  e_ParseError_OddSize := He.exm_ok (c.t.d.fact 62)
  e_ParseError_InvalidCounters := He.exm_ok (c.t.d.fact 63)
  e_ParseError_InvalidHistory := He.exm_ok (c.t.d.fact 64)
  e_ParseError_AlreadyThere := He.exm_ok (c.t.d.fact 65)
  e_ParseError_NotThere := He.exm_ok (c.t.d.fact 66)
  e_ParseError_NothingToUndo := He.exm_ok (c.t.d.fact 67)
  e_ParseError_ParseError := He.exm_ok (c.t.d.fact 68)
  e_InvalidScheme_InvalidScheme := He.exm_ok (c.t.d.fact 69)
  e_InvalidKeys_InvalidKeys := He.exm_ok (c.t.d.fact 70)
  e_InvalidFilter_InvalidFilter := He.exm_ok (c.t.d.fact 71)
  e_InvalidNumber_InvalidNumber := He.exm_ok (c.t.d.fact 72)
  e_InvalidKey_InvalidKey := He.exm_ok (c.t.d.fact 73)
  e_TooLarge_TooLarge := He.exm_ok (c.t.d.fact 74)
  e_OddSize_OddSize := He.exm_ok (c.t.d.fact 75)
  e_InvalidCounters_InvalidCounters := He.exm_ok (c.t.d.fact 76)
  e_InvalidHistory_InvalidHistory := He.exm_ok (c.t.d.fact 77)
  e_AlreadyThere_AlreadyThere := He.exm_ok (c.t.d.fact 78)
  e_NotThere_NotThere := He.exm_ok (c.t.d.fact 79)
  e_NothingToUndo_NothingToUndo := He.exm_ok (c.t.d.fact 80)
  c_ParseError := exL_exc c.more 0
  v_ParseError := exL_val c.more 0
  f_is_int := c.t.d.def_ 0 (d := d_is_int) rfl
  f_is_rising := c.t.d.def_ 1 (d := d_is_rising) rfl
  f_is_scheme := c.t.d.def_ 2 (d := d_is_scheme) rfl
  f_check_scheme := c.t.d.def_ 3 (d := d_check_scheme) rfl
  f_scheme_text := c.t.d.def_ 4 (d := d_scheme_text) rfl
  f_format_scheme := c.t.d.def_ 5 (d := d_format_scheme) rfl
  f_read_number := c.t.d.def_ 6 (d := d_read_number) rfl
  f_parse_scheme := c.t.d.def_ 7 (d := d_parse_scheme) rfl
  f_check_filter := c.t.d.def_ 8 (d := d_check_filter) rfl
  f_format_filter := c.t.d.def_ 9 (d := d_format_filter) rfl
  f_parse_filter := c.t.d.def_ 10 (d := d_parse_filter) rfl
  f__law_pick := c.t.d.def_ 11 (d := d__law_pick) rfl
  f__law_some := c.t.d.def_ 12 (d := d__law_some) rfl
  f__law_scheme := c.t.d.def_ 13 (d := d__law_scheme) rfl
  f__law_class := c.t.d.def_ 14 (d := d__law_class) rfl
  f__law_result := c.t.d.def_ 15 (d := d__law_result) rfl
  f__law_all := c.t.d.def_ 16 (d := d__law_all) rfl
  f_law := c.t.d.def_ 17 (d := d_law) rfl
theorem tc_of {K : PySem.W.Frag} {mg : Str → Option Value} {h base : Heap} {w : World} (T : Tb mg K) (c : He.SaysX fa fn [] tfn (exL ex tfn) w h K) (hB : ∀ p ∈ tf, LamX.TabB base mg (He.cT K p.1).1 (He.cT K p.1).2) : @Tc (tabsOf K tf) mg K base :=
  @Tc.mk (tabsOf K tf) mg K base T (hB (("law", none), "law") (List.mem_of_getElem? (i := 0) rfl)) (tabs_nm (ex := ex) (tf := tf) c.more 0 (p := ("law", none)) (q := "law") rfl) (tabs_mem (tf := tf) 0 (p := ("law", none)) (q := "law") rfl)
abbrev hk : PySem.W.Hook := He.hookX 5 fa fn [] tfn (exL ex tfn)
def ob (s : PySem.W.SharedT) : He.AlX := He.obsX 5 fa fn [] tfn (exL ex tfn) (HandSHeadRun.getT s)
theorem ob_eq (s : PySem.W.SharedT) : ob s = hk.obs s.abs := He.obsX_eq (HandSHeadRun.getT_eq s)
abbrev RR : PySem.W.OpenRow := PySem.W.OpenLaw.row PySem.Challenge.rw_bloomback_k68_formats
theorem run (w : World) : HandSHeadRun.RunEq RR (PySem.W.view RR.prog [42]) hk ob 4000 loose w := by
  intro os
  kernel_rfl
end LW


open PySem PySem.W PySem.Calls PyProof.Rows DL in
set_option maxRecDepth 100000 in
set_option maxHeartbeats 0 in
theorem PySem.Challenge.cw_bloomback_k68_formats_holds : PySem.Challenge.rw_bloomback_k68_formats.Holds := by
  w_on; o_law
  refine HandSHeadRun.head_any (r := OpenLaw.row PySem.Challenge.rw_bloomback_k68_formats) (q := view (OpenLaw.row PySem.Challenge.rw_bloomback_k68_formats).prog [42]) (H := LW.hk) (ob := LW.ob) (M := 4000) (loose := LW.loose) (d := HandSHeadRun.topDef (OpenLaw.row PySem.Challenge.rw_bloomback_k68_formats).prog 42) (kwd := []) LW.ob_eq
    (by kernel_rfl) (fun s => by kernel_rfl) LW.run (by kernel_rfl) (by kernel_rfl) (by kernel_rfl) (by rfl) (by first | assumption | decide +kernel) (by decide +kernel) ⟨rfl, rfl, rfl, rfl, rfl, by decide +kernel⟩ ?hw ?hc
  case hw => w_witness2
  case hc =>
    refine DL.walkDL (tf := LW.tf) (l := PySem.Challenge.rw_bloomback_k68_formats) (n := 63) (k := 9) (x := "script") rfl (by decide) (by kernel_rfl) ⟨rfl, by decide, by decide⟩ ?F
    intro w mg fa h Y G hmg0
    obtain ⟨K, KX, c⟩ := Y
    have hmg : mg ("law" : PySem.Str) = some (.ref fa) := by
      have e : (HandSHeadRun.topDef (OpenLaw.row PySem.Challenge.rw_bloomback_k68_formats).prog 42).name = ("law" : PySem.Str) := by kernel_rfl
      rw [← e]
      exact hmg0
    have T := LW.tb_of KX G c
    obtain ⟨fd, F⟩ := T.f_law
    have e := hmg.symm.trans T.r_law
    cases e
    have b := L2.FunD.bindsA (ps := ["script"]) F fun _ _ _ _ _ _ us hl => match us, hl with | [_], _ => rfl
    exact ⟨K, fd, LW.m_law K, KX, fun p hp => c.empty p.1 (List.mem_map.mpr ⟨p, hp, rfl⟩), fun p hp => c.out p.1 (List.mem_map.mpr ⟨p, hp, rfl⟩), fun p hp => c.hd p.1 (List.mem_map.mpr ⟨p, hp, rfl⟩), fun s u => b s [u] rfl, fun base hB => @LW.fk_law (DL.tabsOf K LW.tf) _ _ _ _ _ (LW.tc_of T c hB) _ F, fun ns hl => LW.law_true T ns hl⟩
